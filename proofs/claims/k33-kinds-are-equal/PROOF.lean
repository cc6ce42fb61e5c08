import PyProof.Rows.All
import Wide.All
import OpenK.AllK
import Wide.FinOn
import KE.KStateDown
import HandS.ForMost
import HandS.Codes
import HandS.Walk
import HandS.IsInst
import HandS.TupAny
import HandS.Wide
import HandS.Defaults
import HandS.More
import HandS.WordsExc
import HandS.Head0
import HandS.Head1
import HandS.Head2
import HandS.HeadEnd
import HandS.HeadHook1
import HandS.HeadHook2
import HandS.Lambda
import HandS.HeadHook4
import KE.KNestM
import HandS.Steps
import HandS.Evl
import HandS.ForExc
import HandS.CallSlots
import HandS.Ends
import HandS.ExcOwn
import HandS.ExcIs
import HandS.ExcValue
import HandS.TryOnly
import PyProof.ExcBaseAll.ValueError
import HandS.RaiseMore
import HandS.Style
import HandS.SortInts
import HandS.Dict
import PyProof.ReprLen
import PyProof.StrLawsRepr
import HandS.OwnEq
import HandS.Deep
import PyProof.StrBlock2
import HandS.Flow
import HandS.Zip
import KE.GoesEnum
import KE.DataMinMax
import KE.SortData
import HandS.ListItems
import HandS.SortKw
import HandS.SetKeys
import HandS.Rev
import HandS.RevRange
import HandS.FStr
import HandS.StrMore
import KE.GoesMore
import KE.GoesZip
import PyProof.EqAt
import PyProof.NeKinds
import PyProof.FactsIdx
import PySem.Challenge.RW_callcoin_k33_kinds_are_equal
set_option Elab.async false
set_option linter.all false
set_option maxRecDepth 100000
set_option maxHeartbeats 4000000
namespace Dl
open PySem PySem.Spec PyProof.Rows L2
/-! what the head asks of the module's top -/
/-! ### the tables of code objects that K's functions have -/
def codeTab (p : Addr × Obj) : Option (Addr × Addr) := match p.2 with
  | ⟨.type _, _, .fields vs, _⟩ => (match (vs[11]? : Option Value) with
    | some (.ref P) => some (p.1, P)
    | _ => none)
  | _ => none
def codeNm (K : PySem.W.Frag) (c : Addr) : Str := match K.lookup c with
  | some ⟨_, _, .fields vs, _⟩ => (match (vs[1]? : Option Value) with
    | some (.str q _) => q
    | _ => Str.empty)
  | _ => Str.empty
/-- a code object, its table -/
def tabC (K : PySem.W.Frag) : List (Addr × Addr) := (K.filterMap codeTab).filter fun p => PySem.W.codeHdIn K p.1 p.2 && (K.filterMap codeTab).all fun q => q.2 != p.2 || q.1 == p.1
/-- a table, the name that its lambdas bear -/
def tabList (K : PySem.W.Frag) : List (Addr × Str) := (tabC K).map fun p => (p.2, codeNm K p.1 ++ (".<locals>." : Str) ++ ("<lambda>" : Str))
def coinErrs : List Str := ["CoinError", "NoName", "NoMoney", "NoAmount", "NoText", "NoBridge", "NoDay", "NoWorth", "NoBook", "NoTerm", "NoWeight", "NoMany", "NoKinds", "Lacking", "NoRow", "NoStock", "NoDebt", "NoPeople", "NoDeed", "Shut", "TooMany"]
def terms : List Str := ["Term", "Level", "Called", "Mixed", "Least", "Greatest"]
def isb (c C : Str) : Bool := c == C || (C == "CoinError" && coinErrs.contains c) || (C == "Term" && terms.contains c) || (C == "Mixed" && (c == "Least" || c == "Greatest"))
/-! ### facts of the top: one more Bool -/
abbrev AlB := He.AlD × Bool
def obsB (fa : List He.Fa) (fn : List He.DefD) (ex : PySem.W.Frag → Bool) (K : PySem.W.Frag) : AlB := (He.obsD fa fn K, ex K)
/-- the tables of K's code objects are empty -/
def tabsBX (g : Addr → Option Obj) (K : PySem.W.Frag) : Bool := (tabC K).all fun p => match g p.2 with
  | some o => He.emptyTab o
  | none => false
theorem tabsBX_ok {g : Addr → Option Obj} {K : PySem.W.Frag} (h : tabsBX g K = true) : ∀ p ∈ tabC K, ∃ o, g p.2 = some o ∧ He.emptyTab o = true := fun p hp => by
  have h1 := List.all_eq_true.mp h p hp
  split at h1
  · rename_i o e; exact ⟨o, e, h1⟩
  · cases h1
def obsBG (n : Nat) (fa : List He.Fa) (fn : List He.DefD) (ex : PySem.W.Frag → Bool) (g : Addr → Option Obj) : AlB := obsB fa fn (fun K => ex K && tabsBX g K) (He.frT g (He.asD g n))
structure SaysB (fa : List He.Fa) (fn : List He.DefD) (ex : PySem.W.Frag → Bool) (h : Heap) (K : PySem.W.Frag) : Prop where
  d : He.SaysD fa fn K
  e : ex K = true
  t : ∀ p ∈ tabC K, h.get? p.2 = some (PySem.W.tabObj #[])
  n : ∀ p ∈ tabC K, K.lookup p.2 = none
def hookB (n : Nat) (fa : List He.Fa) (fn : List He.DefD) (ex : PySem.W.Frag → Bool) : PySem.W.Hook where
  α := AlB
  obs := fun s => obsBG n fa fn ex s.heap.get?
  val := fun _ => (He.valD fn, true)
  says := fun _ h => ∃ K : PySem.W.Frag, K.In h ∧ SaysB fa fn ex h K
  of := fun _ _ e => ⟨_, He.frT_in, congrArg (fun z : AlB => z.1) e, (He.ba (congrArg (fun z : AlB => z.2) e)).1,
    fun p hp => by
      obtain ⟨o, e1, e2⟩ := tabsBX_ok (He.ba (congrArg (fun z : AlB => z.2) e)).2 p hp
      rw [e1, He.emptyTab_eq e2],
    fun p hp => by
      obtain ⟨o, e1, e2⟩ := tabsBX_ok (He.ba (congrArg (fun z : AlB => z.2) e)).2 p hp
      exact He.frT_none e1 e2⟩
  keeps := fun _ _ _ ⟨K, hK, c⟩ k => ⟨K, PySem.W.Frag.In.keeps hK k, c.d, c.e, fun p hp => k _ _ (c.t p hp), c.n⟩
theorem obsBG_eq {n : Nat} {fa : List He.Fa} {fn : List He.DefD} {ex : PySem.W.Frag → Bool} {g : Addr → Option Obj} {s : Shared} (h : ∀ a, g a = s.heap.get? a) : obsBG n fa fn ex g = (hookB n fa fn ex).obs s := by
  obtain rfl : g = s.heap.get? := funext h
  rfl
def insB (K : PySem.W.Frag) (D : Addr) : Bool := He.eqO (PySem.W.findIn K (.ref D) "__class__") (some (some (.builtin "object.__class__"))) && (He.eqO (PySem.W.specialIn K (.builtin "object.__class__") "__get__") (some (some (.builtin "getset_descriptor.__get__"))) && (decide (PySem.W.takesIn K (.builtin "object.__class__") = some true) && decide (PySem.W.mroIn K D (.type "object") = some true)))
def excB (K : PySem.W.Frag) (D : Addr) : Bool := insB K D && (He.eqO (PySem.W.findIn K (.ref D) "__getattribute__") (some (some (.builtin "BaseException.__getattribute__"))) && (He.eqO (PySem.W.findIn K (.ref D) "__getattr__") (some none) && (decide (PySem.W.subIn K (.ref D) (.type "BaseException") = some true) && PySem.W.hasDictIn K D)))
def seven : List String := ["NoneType", "bool", "int", "str", "tuple", "list", "dict"]
def exsB (EX : List Str) (K : PySem.W.Frag) : Bool := EX.all fun c => EX.all fun C => decide (PySem.W.exmOne K (.ref (He.ga K c)) (.ref (He.ga K C)) = some (isb c C))
def cssB (EX CL : List Str) (K : PySem.W.Frag) : Bool := (EX.all fun c => excB K (He.ga K c)) && ((CL.all fun c => (He.Fa.cls c).ok K && insB K (He.ga K c)) && (((EX ++ CL).all fun c => (EX ++ CL).all fun C => decide (PySem.W.kitOne K (.ref (He.ga K c)) (.ref (He.ga K C)) = some (isb c C))) && ((EX ++ CL).all fun C => seven.all fun t => decide (PySem.W.kitOne K (.type t) (.ref (He.ga K C)) = some false))))
def vesB (EX : List Str) (K : PySem.W.Frag) : Bool := (EX.all fun c => excB K (He.ga K c)) && EX.all fun c => decide (PySem.W.kitOne K (.ref (He.ga K c)) (.type "ValueError") = some true)
/-- a statement of a class -/
def inCls (st : Stmt) (j : Nat) : Stmt := match st with
  | .ClassDef _ _ _ b _ _ _ _ _ _ _ => b.getD j (.Pass ⟨0, 0, 0, 0⟩)
  | _ => .Pass ⟨0, 0, 0, 0⟩
/-! ### what a lambda's maker asks of K, as a Bool -/
def modB (K : PySem.W.Frag) : Bool := match K.lookup (He.ga K "__builtins__") with
  | some ⟨.type c, some d, .plain, _⟩ => c == "module" && (d == builtinsNs && (He.ga K "__builtins__" != builtinsNs && (He.ga K "__builtins__" != mainGlobals && (tabC K).all fun p => p.2 != He.ga K "__builtins__" && p.2 != mainGlobals)))
  | _ => false
def nmIs (q : Str) (o : Obj) : Bool := match o with
  | ⟨_, _, .fields vs, _⟩ => (match vs.toList with
    | _ :: .str n _ :: _ => n == q
    | _ => false)
  | _ => false
def lamQ (K : PySem.W.Frag) (q : Str) : Bool := K.all fun p => !(nmIs q p.2) || (tabC K).any fun r => r.1 == p.1 && codeNm K p.1 == q
def lamB (qs : List Str) (K : PySem.W.Frag) : Bool := modB K && qs.all fun q => lamQ K q
/-! ### the run's equation out of parts: each part is run by itself, for the kernel's memory -/
def kT (s : PySem.W.SharedT) : PySem.W.Frag := He.frT (HandSHeadRun.getT s) (He.asD (HandSHeadRun.getT s) 4)
theorem opt_and {α : Type} {x : Option α} {f g : α → Bool} (a : x.map f = some true) (b : x.map g = some true) : x.map (fun s => f s && g s) = some true := by
  cases x with
  | none => cases a
  | some s =>
    have a' : f s = true := by injection a
    have b' : g s = true := by injection b
    show some (f s && g s) = _
    rw [a', b']; rfl
theorem run_of {x : Option PySem.W.SharedT} {A1 : PySem.W.SharedT → Bool} {β : Type} {A2 : PySem.W.SharedT → β} {a2 : β} {fa : List He.Fa} {fn : List He.DefD} {ex : PySem.W.Frag → Bool}
    (hA : x.map (fun s => (A1 s, A2 s)) = some (true, a2)) (hF : x.map (fun s => (fa.all fun f => f.ok (kT s)) && tabsBX (HandSHeadRun.getT s) (kT s)) = some true)
    (hN : x.map (fun s => ((fn.all fun d => d.ok (kT s)), fn.map fun d => He.fnW (kT s) d.at_)) = some (true, fn.map He.DefD.val)) (hE : x.map (fun s => ex (kT s)) = some true) :
    x.map (fun s => (A1 s, A2 s, obsBG 4 fa fn ex (HandSHeadRun.getT s))) = some (true, a2, (He.valD fn, true)) := by
  cases x with
  | none => cases hF
  | some s =>
    have a : (A1 s, A2 s) = (true, a2) := by injection hA
    have f : ((fa.all fun f => f.ok (kT s)) && tabsBX (HandSHeadRun.getT s) (kT s)) = true := by injection hF
    have n : ((fn.all fun d => d.ok (kT s)), fn.map fun d => He.fnW (kT s) d.at_) = (true, fn.map He.DefD.val) := by injection hN
    have e : ex (kT s) = true := by injection hE
    have a1 := congrArg (·.1) a
    have a2' := congrArg (·.2) a
    have n1 := congrArg (·.1) n
    have n2 := congrArg (·.2) n
    simp only at a1 a2' n1 n2
    have f1 := (Bool.and_eq_true_iff.mp f).1
    have f2 := (Bool.and_eq_true_iff.mp f).2
    show some (A1 s, A2 s, (((fa.all fun f => f.ok (kT s)) && fn.all fun d => d.ok (kT s), fn.map fun d => He.fnW (kT s) d.at_), (ex (kT s) && tabsBX (HandSHeadRun.getT s) (kT s)))) = some (true, a2, ((true, fn.map He.DefD.val), true))
    rw [a1, a2', f1, f2, n1, n2, e]
    rfl
end Dl

namespace Pf
open PySem PySem.Spec PyProof.Rows L2 Dl
def top (i : Nat) : Stmt := PySem.Challenge.pw_callcoin_k33_kinds_are_equal.main.body.getD i (.Pass ⟨0, 0, 0, 0⟩)
abbrev s__law_mixed : Stmt := top 15
abbrev s__law_next : Stmt := top 16
abbrev s__law_word : Stmt := top 17
abbrev s__law_near : Stmt := top 18
abbrev s__law_pair : Stmt := top 19
abbrev s_is_name : Stmt := top 7
abbrev s_ask_name : Stmt := top 9
abbrev s_is_number : Stmt := top 8
abbrev s_Kind___init__ : Stmt := inCls (top 13) 0
abbrev s_Kind___eq__ : Stmt := inCls (top 13) 1
abbrev s_Kind_ask_weight : Stmt := inCls (top 13) 2
abbrev s_ask_worth : Stmt := top 10
abbrev s_Kind_counted : Stmt := inCls (top 13) 3
abbrev s_law : Stmt := top 20
abbrev exs : List Str := ["CoinError", "NoName", "NoWorth", "NoWeight"]
abbrev objs : List Str := ["Kind"]
/-! ### the head -/
def dd__law_mixed : He.DefD := ⟨("_law_mixed", none), "_law_mixed", "_law_mixed", defArgs s__law_mixed, defBody s__law_mixed, defScope s__law_mixed, [], []⟩
def dd__law_next : He.DefD := ⟨("_law_next", none), "_law_next", "_law_next", defArgs s__law_next, defBody s__law_next, defScope s__law_next, [], []⟩
def dd__law_word : He.DefD := ⟨("_law_word", none), "_law_word", "_law_word", defArgs s__law_word, defBody s__law_word, defScope s__law_word, [], []⟩
def dd__law_near : He.DefD := ⟨("_law_near", none), "_law_near", "_law_near", defArgs s__law_near, defBody s__law_near, defScope s__law_near, [], []⟩
def dd__law_pair : He.DefD := ⟨("_law_pair", none), "_law_pair", "_law_pair", defArgs s__law_pair, defBody s__law_pair, defScope s__law_pair, [], []⟩
def dd_is_name : He.DefD := ⟨("is_name", none), "is_name", "is_name", defArgs s_is_name, defBody s_is_name, defScope s_is_name, [], []⟩
def dd_ask_name : He.DefD := ⟨("ask_name", none), "ask_name", "ask_name", defArgs s_ask_name, defBody s_ask_name, defScope s_ask_name, [], []⟩
def dd_is_number : He.DefD := ⟨("is_number", none), "is_number", "is_number", defArgs s_is_number, defBody s_is_number, defScope s_is_number, [], []⟩
def dd_Kind___init__ : He.DefD := ⟨("Kind", some "__init__"), "__init__", "Kind.__init__", defArgs s_Kind___init__, defBody s_Kind___init__, defScope s_Kind___init__, [], []⟩
def dd_Kind___eq__ : He.DefD := ⟨("Kind", some "__eq__"), "__eq__", "Kind.__eq__", defArgs s_Kind___eq__, defBody s_Kind___eq__, defScope s_Kind___eq__, [], []⟩
def dd_Kind_ask_weight : He.DefD := ⟨("Kind", some "ask_weight"), "ask_weight", "Kind.ask_weight", defArgs s_Kind_ask_weight, defBody s_Kind_ask_weight, defScope s_Kind_ask_weight, [], []⟩
def dd_ask_worth : He.DefD := ⟨("ask_worth", none), "ask_worth", "ask_worth", defArgs s_ask_worth, defBody s_ask_worth, defScope s_ask_worth, [], []⟩
def dd_Kind_counted : He.DefD := ⟨("Kind", some "counted"), "counted", "Kind.counted", defArgs s_Kind_counted, defBody s_Kind_counted, defScope s_Kind_counted, [], []⟩
def dd_law : He.DefD := ⟨("law", none), "law", "law", defArgs s_law, defBody s_law, defScope s_law, [], []⟩
def fn : List He.DefD := [dd__law_mixed, dd__law_next, dd__law_word, dd__law_near, dd__law_pair, dd_is_name, dd_ask_name, dd_is_number, dd_Kind___init__, dd_Kind___eq__, dd_Kind_ask_weight, dd_ask_worth, dd_Kind_counted, dd_law]
def fa : List He.Fa := [.glo "_law_mixed", .glo "_law_next", .glo "_law_word", .glo "_law_near", .glo "_law_pair", .glo "is_name", .glo "ask_name", .glo "is_number", .glo "ask_worth", .glo "law", .free "all", .free "bool", .free "int", .free "isinstance", .free "len", .free "list", .free "max", .free "min", .free "range", .free "repr", .free "str", .int "MOST_WEIGHT" 1000, .int "TOP" 1000000, .cls "Kind", .noat "Kind" "full", .noat "Kind" "least", .noat "Kind" "name", .meth "Kind" "__eq__", .meth "Kind" "ask_weight", .meth "Kind" "counted", .mkr "Kind", .glo "Kind", .glo "NoName", .glo "NoWeight", .glo "NoWorth", .exc "NoName", .exc "NoWeight", .exc "NoWorth"]
def ex (K : PySem.W.Frag) : Bool := cssB exs objs K
def loose : List Str := ["CoinError", "NoName", "NoWorth", "NoWeight", "TOP", "is_name", "is_number", "ask_name", "ask_worth", "MOST_WEIGHT", "Kind", "_law_mixed", "_law_next", "_law_word", "_law_near", "_law_pair"]
abbrev R : PySem.W.OpenRow := PySem.W.OpenLaw.row PySem.Challenge.rw_callcoin_k33_kinds_are_equal
abbrev hk : PySem.W.Hook := hookB 4 fa fn ex
def ob (s : PySem.W.SharedT) : AlB := obsBG 4 fa fn ex (HandSHeadRun.getT s)
theorem ob_eq (s : PySem.W.SharedT) : ob s = hk.obs s.abs := obsBG_eq (HandSHeadRun.getT_eq s)
noncomputable def xr (w : World) (os : OsState) : Option PySem.W.SharedT := HandSHeadRun.endF (HandSHeadRun.stepQ (HandSHeadRun.denQ HandSHeadRun.tabQ) R.prog w) 100000 R.prog w os
theorem runA (w : World) (os : OsState) : (xr w os).map (fun s => (HandSHeadRun.looksF R.prog (PySem.W.boot_heap w.params) s.abs, HandSHeadRun.seenQ (PySem.W.view R.prog [20]) loose (importedModules R.prog.main.body) (fun s => PySem.W.xlAt (PySem.W.view R.prog [20]) [] s && PySem.W.recOk R.toRowW.records s) s.abs)) = some (true, PySem.W.openGood (PySem.W.view R.prog [20]) loose) := by
  kernel_rfl
theorem runF (w : World) (os : OsState) : (xr w os).map (fun s => (fa.all fun f => f.ok (kT s)) && tabsBX (HandSHeadRun.getT s) (kT s)) = some true := by
  kernel_rfl
theorem runN (w : World) (os : OsState) : (xr w os).map (fun s => ((fn.all fun d => d.ok (kT s)), fn.map fun d => He.fnW (kT s) d.at_)) = some (true, fn.map He.DefD.val) := by
  kernel_rfl
theorem runE0 (w : World) (os : OsState) : (xr w os).map (fun s => (fun K : PySem.W.Frag => cssB exs objs K) (kT s)) = some true := by
  kernel_rfl
theorem run (w : World) : HandSHeadRun.RunEq R (PySem.W.view R.prog [20]) hk ob 100000 loose w := fun os => run_of (ex := ex) (runA w os) (runF w os) (runN w os) (runE0 w os)
end Pf
namespace Dl
open PySem L2
/-! data: what a value stands for, deep -/
inductive D where
  | non | bl (b : Bool) | int (i : Int) | str (x : Str) | ref (a : Addr) | ty (n : String)
  | tup (l : List D) | lst (l : List D) | scr (l : List D) | dct (l : List (Key × D)) | dcT (l : List (List Key × D)) | obj (C : Str) (fs : List (Str × D)) | exc (C : Str) (fs : List (Str × D)) (own : Bool) | drw (ns : List Int)
/-- a mutable cell -/
inductive MO where
  | lst (l : List D) | dct (l : List (Key × D)) | dcT (l : List (List Key × D)) | obj (C : Str) (fs : List (Str × D)) | lck (o : Obj) (kvs : List (Key × V)) (l : List (Key × D))
abbrev Mem := Addr → Option MO
inductive SL where
  | no | val (d : D) | own (m : MO)
abbrev Ss := List SL
variable {K : PySem.W.Frag}
/-- an exception that was caught: its class, its own dict -/
def ExO (a : Addr) (cls : Value) (d : Option Addr) : HO := .ext fun h => ∃ o, h.get? a = some o ∧ o.cls = cls ∧ o.dict = d ∧ ∃ vs, o.data = .fields vs
mutual
def Rep (K : PySem.W.Frag) (S : Hp) : D → V → Prop
  | .non, v => v = .non
  | .bl b, v => v = .bl b
  | .int i, v => v = .int i
  | .str x, v => v = .str x
  | .ref a, v => v = .ref a
  | .ty n, v => v = .ty n
  | .tup ds, v => ∃ a vs, v = .ref a ∧ S a = some (.tup vs) ∧ RepL K S ds vs
  | .lst ds, v => ∃ a vs, v = .ref a ∧ S a = some (.lst vs) ∧ RepL K S ds vs
  | .scr ds, v => ∃ a vs, v = .ref a ∧ SqL K S a vs ∧ RepL K S ds vs
  | .dct ds, v => ∃ a kvs, v = .ref a ∧ Rd S a (.dK kvs) ∧ RepK K S ds kvs
  | .dcT ds, v => ∃ a kvs, v = .ref a ∧ S a = some (.dT kvs) ∧ RepT K S ds kvs
  | .obj C ds, v => ∃ a dx fs, v = .ref a ∧ S a = some (.ins (He.ga K C) dx fs) ∧ RepF K S ds fs
  | .exc C ds false, v => ∃ a, v = .ref a ∧ S a = some (ExO a (.ref (He.ga K C)) none) ∧ ds = []
  | .exc C ds true, v => ∃ a x fs, v = .ref a ∧ S a = some (ExO a (.ref (He.ga K C)) (some x)) ∧ S x = some (.xd fs) ∧ RepF K S ds fs
  | .drw ns, v => ∃ a sa, v = .ref a ∧ S a = some (.met sa sa) ∧ SqL K S sa (ns.map V.int) ∧ ns.length ≤ 63
def RepL (K : PySem.W.Frag) (S : Hp) : List D → List V → Prop
  | [], vs => vs = []
  | d :: ds, vs => ∃ v r, vs = v :: r ∧ Rep K S d v ∧ RepL K S ds r
def RepK (K : PySem.W.Frag) (S : Hp) : List (Key × D) → List (Key × V) → Prop
  | [], vs => vs = []
  | (k, d) :: ds, vs => ∃ v r, vs = (k, v) :: r ∧ Rep K S d v ∧ RepK K S ds r
def RepT (K : PySem.W.Frag) (S : Hp) : List (List Key × D) → List (List Key × V) → Prop
  | [], vs => vs = []
  | (k, d) :: ds, vs => ∃ v r, vs = (k, v) :: r ∧ Rep K S d v ∧ RepT K S ds r
def RepF (K : PySem.W.Frag) (S : Hp) : List (Str × D) → List (Str × V) → Prop
  | [], vs => vs = []
  | (k, d) :: ds, vs => ∃ v r, vs = (k, v) :: r ∧ Rep K S d v ∧ RepF K S ds r
end
def RepM (K : PySem.W.Frag) (S : Hp) : MO → HO → Prop
  | .lst ds, o => ∃ vs, o = .lst vs ∧ RepL K S ds vs
  | .dct ds, o => ∃ vs, o = .dK vs ∧ RepK K S ds vs
  | .dcT ds, o => ∃ vs, o = .dT vs ∧ RepT K S ds vs
  | .obj C ds, o => ∃ dx vs, o = .ins (He.ga K C) dx vs ∧ RepF K S ds vs
  | .lck od kvs ds, o => o = .frz od (.dK kvs) ∧ RepK K S ds kvs
def Ex (S S' : Hp) : Prop := ∀ a o, S a = some o → S' a = some o
theorem Ex.refl (S : Hp) : Ex S S := fun _ _ h => h
theorem Ex.trans {S S1 S2 : Hp} (a : Ex S S1) (b : Ex S1 S2) : Ex S S2 := fun x o h => b x o (a x o h)
theorem Ex.new {S : Hp} {p : Addr} {o : HO} (h : S p = none) : Ex S (upd S p o) := fun a u e => by rw [upd_ne (ne_of_none e h)]; exact e
theorem ex_rd {S S' : Hp} {a : Addr} {u : HO} (e : Ex S S') (h : Rd S a u) : Rd S' a u := by
  rcases h with h | ⟨o, h⟩
  · exact .inl (e _ _ h)
  · exact .inr ⟨o, e _ _ h⟩
theorem ex_l {S S' : Hp} {a : Addr} {xs : List V} (e : Ex S S') (h : SqL K S a xs) : SqL K S' a xs := by
  rcases h with h | h
  · exact .inl (ex_rd e h)
  · exact .inr h
theorem ex_t {S S' : Hp} {a : Addr} {xs : List V} (e : Ex S S') (h : SqT K S a xs) : SqT K S' a xs := by
  rcases h with h | h
  · exact .inl (ex_rd e h)
  · exact .inr h
mutual
theorem Rep.mono {S S' : Hp} (e : Ex S S') : ∀ (d : D) (v : V), Rep K S d v → Rep K S' d v
  | .non, _, h => h
  | .bl _, _, h => h
  | .int _, _, h => h
  | .str _, _, h => h
  | .ref _, _, h => h
  | .ty _, _, h => h
  | .tup ds, _, h => by
    obtain ⟨a, vs, e1, h1, h2⟩ := h
    exact ⟨a, vs, e1, e _ _ h1, RepL.mono e ds vs h2⟩
  | .lst ds, _, h => by
    obtain ⟨a, vs, e1, h1, h2⟩ := h
    exact ⟨a, vs, e1, e _ _ h1, RepL.mono e ds vs h2⟩
  | .scr ds, _, h => by
    obtain ⟨a, vs, e1, h1, h2⟩ := h
    exact ⟨a, vs, e1, ex_l e h1, RepL.mono e ds vs h2⟩
  | .dct ds, _, h => by
    obtain ⟨a, vs, e1, h1, h2⟩ := h
    exact ⟨a, vs, e1, ex_rd e h1, RepK.mono e ds vs h2⟩
  | .dcT ds, _, h => by
    obtain ⟨a, vs, e1, h1, h2⟩ := h
    exact ⟨a, vs, e1, e _ _ h1, RepT.mono e ds vs h2⟩
  | .obj C ds, _, h => by
    obtain ⟨a, dx, vs, e1, h1, h2⟩ := h
    exact ⟨a, dx, vs, e1, e _ _ h1, RepF.mono e ds vs h2⟩
  | .exc C ds false, _, h => by
    obtain ⟨a, e1, h1, h2⟩ := h
    exact ⟨a, e1, e _ _ h1, h2⟩
  | .exc C ds true, _, h => by
    obtain ⟨a, x, vs, e1, h1, h2, h3⟩ := h
    exact ⟨a, x, vs, e1, e _ _ h1, e _ _ h2, RepF.mono e ds vs h3⟩
  | .drw ns, _, h => by
    obtain ⟨a, sa, e1, h1, h2, h3⟩ := h
    exact ⟨a, sa, e1, e _ _ h1, ex_l e h2, h3⟩
theorem RepL.mono {S S' : Hp} (e : Ex S S') : ∀ (ds : List D) (vs : List V), RepL K S ds vs → RepL K S' ds vs
  | [], _, h => h
  | d :: ds, _, h => by
    obtain ⟨v, r, e1, h1, h2⟩ := h
    exact ⟨v, r, e1, Rep.mono e d v h1, RepL.mono e ds r h2⟩
theorem RepK.mono {S S' : Hp} (e : Ex S S') : ∀ (ds : List (Key × D)) (vs : List (Key × V)), RepK K S ds vs → RepK K S' ds vs
  | [], _, h => h
  | (k, d) :: ds, _, h => by
    obtain ⟨v, r, e1, h1, h2⟩ := h
    exact ⟨v, r, e1, Rep.mono e d v h1, RepK.mono e ds r h2⟩
theorem RepT.mono {S S' : Hp} (e : Ex S S') : ∀ (ds : List (List Key × D)) (vs : List (List Key × V)), RepT K S ds vs → RepT K S' ds vs
  | [], _, h => h
  | (k, d) :: ds, _, h => by
    obtain ⟨v, r, e1, h1, h2⟩ := h
    exact ⟨v, r, e1, Rep.mono e d v h1, RepT.mono e ds r h2⟩
theorem RepF.mono {S S' : Hp} (e : Ex S S') : ∀ (ds : List (Str × D)) (vs : List (Str × V)), RepF K S ds vs → RepF K S' ds vs
  | [], _, h => h
  | (k, d) :: ds, _, h => by
    obtain ⟨v, r, e1, h1, h2⟩ := h
    exact ⟨v, r, e1, Rep.mono e d v h1, RepF.mono e ds r h2⟩
end
theorem RepM.mono {S S' : Hp} (e : Ex S S') : ∀ (m : MO) (o : HO), RepM K S m o → RepM K S' m o
  | .lst ds, _, h => by
    obtain ⟨vs, e1, h2⟩ := h
    exact ⟨vs, e1, RepL.mono e ds vs h2⟩
  | .dct ds, _, h => by
    obtain ⟨vs, e1, h2⟩ := h
    exact ⟨vs, e1, RepK.mono e ds vs h2⟩
  | .dcT ds, _, h => by
    obtain ⟨vs, e1, h2⟩ := h
    exact ⟨vs, e1, RepT.mono e ds vs h2⟩
  | .obj C ds, _, h => by
    obtain ⟨dx, vs, e1, h2⟩ := h
    exact ⟨dx, vs, e1, RepF.mono e ds vs h2⟩
  | .lck od kvs ds, _, h => ⟨h.1, RepK.mono e ds kvs h.2⟩
theorem RepL.length {S : Hp} : ∀ {ds : List D} {vs : List V}, RepL K S ds vs → vs.length = ds.length
  | [], _, h => by have h : _ = _ := h; rw [h]; rfl
  | d :: ds, _, h => by
    obtain ⟨v, r, rfl, _, h2⟩ := h
    rw [List.length_cons, List.length_cons, RepL.length h2]
theorem RepL.get {S : Hp} : ∀ {ds : List D} {vs : List V} {i : Nat} {d : D}, RepL K S ds vs → ds[i]? = some d → ∃ v, vs[i]? = some v ∧ Rep K S d v
  | [], _, i, d, h, e => by simp at e
  | d :: ds, _, 0, d', h, e => by
    obtain ⟨v, r, rfl, h1, h2⟩ := h
    simp at e
    subst e
    exact ⟨v, by simp, h1⟩
  | d :: ds, _, i + 1, d', h, e => by
    obtain ⟨v, r, rfl, h1, h2⟩ := h
    obtain ⟨v', e', h'⟩ := RepL.get (i := i) h2 (by simpa using e)
    exact ⟨v', by simpa using e', h'⟩
theorem RepL.append {S : Hp} : ∀ {ds es : List D} {vs ws : List V}, RepL K S ds vs → RepL K S es ws → RepL K S (ds ++ es) (vs ++ ws)
  | [], _, _, _, h, h' => by have h : _ = _ := h; rw [h]; exact h'
  | d :: ds, _, _, _, h, h' => by
    obtain ⟨v, r, rfl, h1, h2⟩ := h
    exact ⟨v, _, rfl, h1, RepL.append h2 h'⟩
theorem RepL.one {S : Hp} {d : D} {v : V} (h : Rep K S d v) : RepL K S [d] [v] := ⟨v, [], rfl, h, rfl⟩
theorem RepL.set {S : Hp} {d : D} {v : V} (h : Rep K S d v) : ∀ {ds : List D} {vs : List V} (i : Nat), RepL K S ds vs → RepL K S (ds.set i d) (vs.set i v)
  | [], _, i, h' => by have h' : _ = _ := h'; rw [h']; rfl
  | _ :: ds, _, 0, h' => by
    obtain ⟨v', r, rfl, h1, h2⟩ := h'
    exact ⟨v, r, rfl, h, h2⟩
  | _ :: ds, _, i + 1, h' => by
    obtain ⟨v', r, rfl, h1, h2⟩ := h'
    exact ⟨v', _, rfl, h1, RepL.set h i h2⟩
theorem RepL.drop {S : Hp} : ∀ {ds : List D} {vs : List V} (i : Nat), RepL K S ds vs → RepL K S (ds.drop i) (vs.drop i)
  | [], _, i, h' => by have h' : _ = _ := h'; rw [h']; simp [RepL]
  | _ :: ds, _, 0, h' => h'
  | _ :: ds, _, i + 1, h' => by
    obtain ⟨v', r, rfl, h1, h2⟩ := h'
    exact RepL.drop i h2
theorem RepL.take {S : Hp} : ∀ {ds : List D} {vs : List V} (i : Nat), RepL K S ds vs → RepL K S (ds.take i) (vs.take i)
  | [], _, i, h' => by have h' : _ = _ := h'; rw [h']; simp [RepL]
  | _ :: ds, _, 0, h' => rfl
  | _ :: ds, _, i + 1, h' => by
    obtain ⟨v', r, rfl, h1, h2⟩ := h'
    exact ⟨v', _, rfl, h1, RepL.take i h2⟩
theorem RepL.reverse {S : Hp} : ∀ {ds : List D} {vs : List V}, RepL K S ds vs → RepL K S ds.reverse vs.reverse
  | [], _, h' => by have h' : _ = _ := h'; rw [h']; rfl
  | d :: ds, _, h' => by
    obtain ⟨v', r, rfl, h1, h2⟩ := h'
    rw [List.reverse_cons, List.reverse_cons]
    exact RepL.append (RepL.reverse h2) (RepL.one h1)
theorem RepL.int {S : Hp} : ∀ {ns : List Int} {vs : List V}, RepL K S (ns.map D.int) vs → vs = ns.map V.int
  | [], _, h => h
  | n :: ns, _, h => by
    obtain ⟨v, r, rfl, h1, h2⟩ := h
    have h1 : v = _ := h1
    rw [h1, RepL.int h2]; rfl
theorem RepL.ints {S : Hp} : ∀ {ns : List Int}, RepL K S (ns.map D.int) (ns.map V.int)
  | [] => rfl
  | n :: ns => ⟨_, _, rfl, rfl, RepL.ints⟩
theorem RepL.str {S : Hp} : ∀ {ns : List Str} {vs : List V}, RepL K S (ns.map D.str) vs → vs = ns.map V.str
  | [], _, h => h
  | n :: ns, _, h => by
    obtain ⟨v, r, rfl, h1, h2⟩ := h
    have h1 : v = _ := h1
    rw [h1, RepL.str h2]; rfl
theorem RepL.bl {S : Hp} : ∀ {ns : List Bool} {vs : List V}, RepL K S (ns.map D.bl) vs → vs = ns.map V.bl
  | [], _, h => h
  | n :: ns, _, h => by
    obtain ⟨v, r, rfl, h1, h2⟩ := h
    have h1 : v = _ := h1
    rw [h1, RepL.bl h2]; rfl
/-! the relation of a state of data and a heap -/
def isDc : HO → Prop
  | .dK _ => True
  | .dT _ => True
  | _ => False
/-- no mark of a draw, no table -/
def notMet : HO → Prop
  | .met _ _ => False
  | .tbl _ => False
  | _ => True
/-- neither a table nor what stands in one -/
def NX : HO → Prop
  | .ext _ => False
  | .tbl _ => False
  | _ => True
def notTbl (u : HO) : Prop := ∀ ps, u ≠ .tbl ps
/-- a draw: the script and how many were drawn, which changes unseen -/
def DrwAt (H : Hp) (a : Addr) (u : HO) : Prop := ∃ sa n, u = .met sa sa ∧ H a = some (.lst [.ref sa, .int n]) ∧ 0 ≤ n
def ExR (S H : Hp) : Prop := ∀ a u, S a = some u → (H a = some u ∧ notMet u) ∨ (isDc u ∧ ∃ o, H a = some (.frz o u)) ∨ DrwAt H a u
theorem ExR.at {S H : Hp} (e : ExR S H) {a : Addr} {u : HO} (h : S a = some u) (hn : notMet u) : H a = some u ∨ (isDc u ∧ ∃ o, H a = some (.frz o u)) := by
  rcases e a u h with q | q | ⟨sa, n, rfl, _⟩
  · exact .inl q.1
  · exact .inr q
  · exact hn.elim
theorem ExR.drw {S H : Hp} (e : ExR S H) {a sa : Addr} (h : S a = some (.met sa sa)) : ∃ n, H a = some (.lst [.ref sa, .int n]) ∧ 0 ≤ n := by
  rcases e a _ h with q | q | ⟨sb, n, q, h1, h2⟩
  · exact q.2.elim
  · exact q.1.elim
  · cases q; exact ⟨n, h1, h2⟩
theorem ExR.has {S H : Hp} (e : ExR S H) {a : Addr} {u : HO} (h : S a = some u) : ∃ o, H a = some o := by
  rcases e a u h with q | ⟨_, o, q⟩ | ⟨sa, n, _, q, _⟩
  · exact ⟨_, q.1⟩
  · exact ⟨_, q⟩
  · exact ⟨_, q⟩
/-- what a store elsewhere leaves -/
theorem exr_upd {S H : Hp} {a p : Addr} {u o : HO} (h : (H a = some u ∧ notMet u) ∨ (isDc u ∧ ∃ o, H a = some (.frz o u)) ∨ DrwAt H a u) (ha : a ≠ p) : (L2.upd H p o a = some u ∧ notMet u) ∨ (isDc u ∧ ∃ x, L2.upd H p o a = some (.frz x u)) ∨ DrwAt (L2.upd H p o) a u := by
  rcases h with q | ⟨c, x, q⟩ | ⟨sa, n, e, q, z⟩
  · exact .inl ⟨by rw [upd_ne ha]; exact q.1, q.2⟩
  · exact .inr (.inl ⟨c, x, by rw [upd_ne ha]; exact q⟩)
  · exact .inr (.inr ⟨sa, n, e, by rw [upd_ne ha]; exact q, z⟩)
theorem RepM.notMet {S : Hp} {m : MO} {o : HO} (h : RepM K S m o) : notMet o := by
  cases m with
  | lst l => obtain ⟨vs, rfl, _⟩ := h; trivial
  | dct l => obtain ⟨vs, rfl, _⟩ := h; trivial
  | dcT l => obtain ⟨vs, rfl, _⟩ := h; trivial
  | obj C l => obtain ⟨dx, vs, rfl, _⟩ := h; trivial
  | lck od kvs l => obtain ⟨rfl, _⟩ := h; trivial
theorem RepM.nx {S : Hp} {m : MO} {o : HO} (h : RepM K S m o) : NX o := by
  cases m with
  | lst l => obtain ⟨vs, rfl, _⟩ := h; trivial
  | dct l => obtain ⟨vs, rfl, _⟩ := h; trivial
  | dcT l => obtain ⟨vs, rfl, _⟩ := h; trivial
  | obj C l => obtain ⟨dx, vs, rfl, _⟩ := h; trivial
  | lck od kvs l => obtain ⟨rfl, _⟩ := h; trivial
theorem NX.nt {o : HO} (h : NX o) : notTbl o := fun ps z => by rw [z] at h; exact h
theorem nt_met {o : HO} (h : notMet o) : notTbl o := fun ps z => by rw [z] at h; exact h
structure TB (K : PySem.W.Frag) (S : Hp) (μ : Mem) (H : Hp) : Prop where
  t : ∀ p ∈ tabList K, S p.1 = none ∧ μ p.1 = none ∧ LamX.TabS H p.1 p.2
def OldX (H : Hp) (p : Addr) : Prop := ∀ u, H p = some u → NX u
theorem oldX_none {H : Hp} {p : Addr} (h : H p = none) : OldX H p := fun u e => by rw [h] at e; cases e
theorem oldX_some {H : Hp} {p : Addr} {o : HO} (h : H p = some o) (ho : NX o) : OldX H p := fun u e => by rw [h] at e; cases e; exact ho
theorem tab_upd {H : Hp} {p P : Addr} {o : HO} {q : Str} (hp : OldX H p) (t : LamX.TabS H P q) : LamX.TabS (upd H p o) P q := by
  obtain ⟨ps, h1, h2, h3⟩ := t
  refine ⟨ps, by rw [upd_ne (fun z => hp (.tbl ps) (by rw [← z]; exact h1))]; exact h1, h2, fun pos cv hc => ?_⟩
  obtain ⟨c, e1, e2⟩ := h3 pos cv hc
  exact ⟨c, e1, by rw [upd_ne (fun z => hp (LamX.CodeO c q) (by rw [← z]; exact e2))]; exact e2⟩
theorem TB.w {S : Hp} {μ : Mem} {H : Hp} {p : Addr} {o : HO} (t : TB K S μ H) (hp : OldX H p) (_ : notTbl o) : TB K S μ (upd H p o) :=
  ⟨fun z hz => ⟨(t.t z hz).1, (t.t z hz).2.1, tab_upd hp (t.t z hz).2.2⟩⟩
theorem TB.s {S : Hp} {μ : Mem} {H : Hp} {p : Addr} {o : HO} (t : TB K S μ H) (hp : OldX H p) : TB K (upd S p o) μ H :=
  ⟨fun z hz => by
    obtain ⟨h1, h2, h3⟩ := t.t z hz
    obtain ⟨ps, e, r⟩ := id h3
    exact ⟨by rw [upd_ne (fun y => hp (.tbl ps) (by rw [← y]; exact e))]; exact h1, h2, h3⟩⟩
theorem TB.d {S : Hp} {μ μ' : Mem} {H : Hp} (t : TB K S μ H) (h : ∀ a m, μ' a = some m → μ a = some m) : TB K S μ' H :=
  ⟨fun z hz => by
    obtain ⟨h1, h2, h3⟩ := t.t z hz
    exact ⟨h1, Option.eq_none_iff_forall_ne_some.mpr (fun m e => by have z := (h _ _ e).symm.trans h2; cases z), h3⟩⟩
structure R3 (K : PySem.W.Frag) (S : Hp) (μ : Mem) (H : Hp) : Prop where
  ex : ExR S H
  mu : ∀ a m, μ a = some m → S a = none ∧ ∃ o, H a = some o ∧ RepM K S m o
  tb : TB K S μ H
structure Grow (S : Hp) (μ : Mem) (H : Hp) (S' : Hp) (μ' : Mem) (H' : Hp) : Prop where
  ex : Ex S S'
  st : ∀ a o, S' a = some o → S a = some o ∨ H a = none ∨ (μ a).isSome = true
  kp : ∀ a o, H a = some o → μ a = none → (∀ sa, S a ≠ some (.met sa sa)) → notTbl o → H' a = some o
  me : ∀ a m, μ' a = some m → (μ a).isSome = true ∨ H a = none
  th : ∀ a o, H a = some o → ∃ o', H' a = some o'
theorem Grow.refl {S : Hp} {μ : Mem} {H : Hp} : Grow S μ H S μ H := ⟨Ex.refl S, fun _ _ h => .inl h, fun _ _ h _ _ _ => h, fun _ _ h => .inl (by rw [h]; rfl), fun _ o h => ⟨o, h⟩⟩
theorem Grow.trans {S S1 S2 : Hp} {μ μ1 μ2 : Mem} {H H1 H2 : Hp} (a : Grow S μ H S1 μ1 H1) (b : Grow S1 μ1 H1 S2 μ2 H2) : Grow S μ H S2 μ2 H2 := by
  have hn : ∀ x, H1 x = none → H x = none ∨ (μ x).isSome = true := fun x h => by
    cases e : H x with
    | none => exact .inl rfl
    | some o =>
      obtain ⟨o', q⟩ := a.th x o e
      rw [h] at q; cases q
  have hm : ∀ x, (μ1 x).isSome = true → H x = none ∨ (μ x).isSome = true := fun x h => by
    obtain ⟨m, e⟩ := Option.isSome_iff_exists.mp h
    exact (a.me x m e).symm
  refine ⟨a.ex.trans b.ex, fun x o h => ?_, fun x o h h0 hs hn => ?_, fun x m h => ?_, fun x o h => ?_⟩
  · rcases b.st x o h with h | h | h
    · exact a.st x o h
    · exact .inr (hn x h)
    · exact .inr (hm x h)
  · refine b.kp x o (a.kp x o h h0 hs hn) ?_ (fun sa z => ?_) hn
    · cases e : μ1 x with
      | none => rfl
      | some m =>
        rcases a.me x m e with q | q
        · rw [h0] at q; cases q
        · rw [h] at q; cases q
    · rcases a.st x _ z with q | q | q
      · exact hs sa q
      · rw [h] at q; cases q
      · rw [h0] at q; cases q
  · rcases b.me x m h with h | h
    · exact (hm x h).symm
    · exact (hn x h).symm
  · obtain ⟨o', e⟩ := a.th x o h
    exact b.th x o' e
theorem th_upd {H : Hp} {p : Addr} {u : HO} : ∀ a o, H a = some o → ∃ o', (upd H p u) a = some o' := fun a o h => by
  by_cases ha : a = p
  · subst ha; exact ⟨u, upd_same⟩
  · exact ⟨o, by rw [upd_ne ha]; exact h⟩
/-- a fresh immutable object -/
theorem R3.free {S : Hp} {μ : Mem} {H : Hp} (r : R3 K S μ H) {p : Addr} (h : H p = none) : S p = none ∧ μ p = none := by
  constructor
  · cases e : S p with
    | none => rfl
    | some u =>
      obtain ⟨o, q⟩ := r.ex.has e
      rw [h] at q; cases q
  · cases e : μ p with
    | none => rfl
    | some m =>
      obtain ⟨_, o, q, _⟩ := r.mu p m e
      rw [h] at q; cases q
theorem R3.alloc {S : Hp} {μ : Mem} {H : Hp} (r : R3 K S μ H) {p : Addr} {o : HO} (h : H p = none) (ho : notMet o := by trivial) : R3 K (upd S p o) μ (upd H p o) ∧ Grow S μ H (upd S p o) μ (upd H p o) := by
  obtain ⟨hs, hm⟩ := r.free h
  refine ⟨⟨fun a u e => ?_, fun a m e => ?_, (r.tb.s (oldX_none h)).w (oldX_none h) (nt_met ho)⟩, ⟨Ex.new hs, fun a u e => ?_, fun a u e _ _ _ => ?_, fun a m e => .inl (by rw [e]; rfl), th_upd⟩⟩
  · by_cases ha : a = p
    · subst ha; rw [upd_same] at e; cases e; exact .inl ⟨upd_same, ho⟩
    · rw [upd_ne ha] at e; exact exr_upd (S := S) (r.ex a u e) ha
  · have ha : a ≠ p := fun z => by rw [z, hm] at e; cases e
    obtain ⟨h1, u, h2, h3⟩ := r.mu a m e
    exact ⟨by rw [upd_ne ha]; exact h1, u, by rw [upd_ne ha]; exact h2, RepM.mono (Ex.new hs) m u h3⟩
  · by_cases ha : a = p
    · subst ha; exact .inr (.inl h)
    · rw [upd_ne ha] at e; exact .inl e
  · rw [upd_ne (ne_of_none e h)]; exact e
def updM (μ : Mem) (a : Addr) (m : MO) : Mem := fun b => if b = a then some m else μ b
theorem updM_same {μ : Mem} {a : Addr} {m : MO} : updM μ a m a = some m := by unfold updM; rw [if_pos rfl]
theorem updM_ne {μ : Mem} {a b : Addr} {m : MO} (h : b ≠ a) : updM μ a m b = μ b := by unfold updM; rw [if_neg h]
theorem updM_upd {μ : Mem} {a : Addr} {m n : MO} : updM (updM μ a m) a n = updM μ a n := by
  funext b; unfold updM; split <;> rfl
theorem TB.m {S : Hp} {μ : Mem} {H : Hp} {p : Addr} {m : MO} (t : TB K S μ H) (hp : OldX H p) : TB K S (updM μ p m) H :=
  ⟨fun z hz => by
    obtain ⟨h1, h2, h3⟩ := t.t z hz
    obtain ⟨ps, e, r⟩ := id h3
    exact ⟨h1, by rw [updM_ne (fun y => hp (.tbl ps) (by rw [← y]; exact e))]; exact h2, h3⟩⟩
/-- a fresh cell -/
theorem R3.cell {S : Hp} {μ : Mem} {H : Hp} (r : R3 K S μ H) {p : Addr} {o : HO} {m : MO} (h : H p = none) (hr : RepM K S m o) : R3 K S (updM μ p m) (upd H p o) ∧ Grow S μ H S (updM μ p m) (upd H p o) := by
  obtain ⟨hs, hm⟩ := r.free h
  refine ⟨⟨fun a u e => ?_, fun a n e => ?_, (r.tb.m (oldX_none h)).w (oldX_none h) hr.nx.nt⟩, ⟨Ex.refl S, fun a u e => .inl e, fun a u e _ _ _ => ?_, fun a n e => ?_, th_upd⟩⟩
  · exact exr_upd (S := S) (r.ex a u e) (fun z => by rw [z, hs] at e; cases e)
  · by_cases ha : a = p
    · subst ha; rw [updM_same] at e; cases e; exact ⟨hs, o, upd_same, hr⟩
    · rw [updM_ne ha] at e
      obtain ⟨h1, u, h2, h3⟩ := r.mu a n e
      exact ⟨h1, u, by rw [upd_ne ha]; exact h2, h3⟩
  · rw [upd_ne (ne_of_none e h)]; exact e
  · by_cases ha : a = p
    · subst ha; exact .inr h
    · rw [updM_ne ha] at e; exact .inl (by rw [e]; rfl)
/-- a cell changed -/
theorem R3.write {S : Hp} {μ : Mem} {H : Hp} (r : R3 K S μ H) {p : Addr} {o : HO} {m m0 : MO} (h : μ p = some m0) (hr : RepM K S m o) : R3 K S (updM μ p m) (upd H p o) ∧ Grow S μ H S (updM μ p m) (upd H p o) := by
  obtain ⟨hs, u0, h0, hr0⟩ := r.mu p m0 h
  refine ⟨⟨fun a u e => ?_, fun a n e => ?_, (r.tb.m (oldX_some h0 hr0.nx)).w (oldX_some h0 hr0.nx) hr.nx.nt⟩, ⟨Ex.refl S, fun a u e => .inl e, fun a u e hn _ _ => ?_, fun a n e => ?_, th_upd⟩⟩
  · exact exr_upd (S := S) (r.ex a u e) (fun z => by rw [z, hs] at e; cases e)
  · by_cases ha : a = p
    · subst ha; rw [updM_same] at e; cases e; exact ⟨hs, o, upd_same, hr⟩
    · rw [updM_ne ha] at e
      obtain ⟨h1, u, h2, h3⟩ := r.mu a n e
      exact ⟨h1, u, by rw [upd_ne ha]; exact h2, h3⟩
  · rw [upd_ne (fun z => by rw [z, h] at hn; cases hn)]; exact e
  · by_cases ha : a = p
    · subst ha; exact .inl (by rw [h]; rfl)
    · rw [updM_ne ha] at e; exact .inl (by rw [e]; rfl)
/-! slots -/
structure Bs where
  S : Hp
  μ : Mem
  H : Hp
  L : Hp
  F : Addr → Option MO
def RepO (K : PySem.W.Frag) (B : Bs) (S : Hp) (μ : Mem) (H : Hp) : SL → Option V → Prop
  | .no, _ => True
  | .val d, x => ∃ v, x = some v ∧ Rep K S d v
  | .own m, x => ∃ p o, x = some (.ref p) ∧ B.H p = none ∧ S p = none ∧ μ p = none ∧ H p = some o ∧ RepM K S m o
structure Rel (K : PySem.W.Frag) (B : Bs) (S : Hp) (μ : Mem) (H : Hp) (σ : L2.St) (δ : Ss) : Prop where
  r3 : R3 K S μ H
  gr : Grow B.S B.μ B.H S μ H
  lo : Ex B.L S
  sl : ∀ (i : Nat) (s : SL), δ[i]? = some s → ∃ x, σ[i]? = some x ∧ RepO K B S μ H s x
  dj : ∀ (i j : Nat) (m n : MO), i ≠ j → δ[i]? = some (.own m) → δ[j]? = some (.own n) → σ[i]? ≠ σ[j]?
  fr : ∀ p m, B.F p = some m → ∃ o, B.H p = none ∧ S p = none ∧ μ p = none ∧ H p = some o ∧ RepM K S m o
  fd : ∀ (i : Nat) (m : MO) (p : Addr), δ[i]? = some (.own m) → σ[i]? = some (some (.ref p)) → B.F p = none
theorem RepO.grow {B : Bs} {S S' : Hp} {μ μ' : Mem} {H H' : Hp} (g : Grow S μ H S' μ' H') : ∀ (s : SL) (x : Option V), RepO K B S μ H s x → RepO K B S' μ' H' s x
  | .no, _, h => h
  | .val d, _, h => by
    obtain ⟨v, e, h⟩ := h
    exact ⟨v, e, Rep.mono g.ex d v h⟩
  | .own m, _, h => by
    obtain ⟨p, o, e, h0, h1, h2, h3, h4⟩ := h
    refine ⟨p, o, e, h0, ?_, ?_, g.kp p o h3 h2 (fun sa z => by rw [h1] at z; cases z) h4.nx.nt, RepM.mono g.ex m o h4⟩
    · cases q : S' p with
      | none => rfl
      | some u =>
        rcases g.st p u q with z | z | z
        · rw [h1] at z; cases z
        · rw [h3] at z; cases z
        · rw [h2] at z; cases z
    · cases q : μ' p with
      | none => rfl
      | some u =>
        rcases g.me p u q with z | z
        · rw [h2] at z; cases z
        · rw [h3] at z; cases z
theorem Rel.grow {B : Bs} {S S' : Hp} {μ μ' : Mem} {H H' : Hp} {σ : L2.St} {δ : Ss} (r : Rel K B S μ H σ δ) (g : Grow S μ H S' μ' H') (r3 : R3 K S' μ' H') : Rel K B S' μ' H' σ δ :=
  ⟨r3, r.gr.trans g, r.lo.trans g.ex, fun i s e => by
    obtain ⟨x, e1, h1⟩ := r.sl i s e
    exact ⟨x, e1, RepO.grow g s x h1⟩, r.dj, fun p m e => by
    obtain ⟨o, h0, h1, h2, h3, h4⟩ := r.fr p m e
    have z : RepO K B S μ H (.own m) (some (.ref p)) := ⟨p, o, rfl, h0, h1, h2, h3, h4⟩
    obtain ⟨p', o', e', q⟩ := RepO.grow g (.own m) _ z
    cases e'
    exact ⟨o', q⟩, r.fd⟩
/-- a slot is given a value -/
theorem Rel.set {B : Bs} {S : Hp} {μ : Mem} {H : Hp} {σ : L2.St} {δ : Ss} (r : Rel K B S μ H σ δ) {i : Nat} {d : D} {v : V} (h : Rep K S d v) : Rel K B S μ H (σ.set i (some v)) (δ.set i (.val d)) := by
  refine ⟨r.r3, r.gr, r.lo, fun j s e => ?_, fun j k m n hjk e1 e2 => ?_, r.fr, fun j m p e1 e2 => ?_⟩
  · by_cases hj : i = j
    · subst hj
      by_cases hl : i < δ.length
      · rw [List.getElem?_set_self hl] at e
        cases e
        obtain ⟨x, e1, _⟩ := r.sl i δ[i] (by simp [hl])
        have hl2 : i < σ.length := (List.getElem?_eq_some_iff.mp e1).1
        exact ⟨some v, by rw [List.getElem?_set_self hl2], v, rfl, h⟩
      · rw [List.getElem?_eq_none (by simpa using hl)] at e; cases e
    · rw [List.getElem?_set_ne hj] at e ⊢
      exact r.sl j s e
  · have n1 : i ≠ j := fun z => by
      subst z
      by_cases hl : i < δ.length
      · rw [List.getElem?_set_self hl] at e1; cases e1
      · rw [List.getElem?_eq_none (by simpa using hl)] at e1; cases e1
    have n2 : i ≠ k := fun z => by
      subst z
      by_cases hl : i < δ.length
      · rw [List.getElem?_set_self hl] at e2; cases e2
      · rw [List.getElem?_eq_none (by simpa using hl)] at e2; cases e2
    rw [List.getElem?_set_ne n1] at e1 ⊢
    rw [List.getElem?_set_ne n2] at e2 ⊢
    exact r.dj j k m n hjk e1 e2
  · have n1 : i ≠ j := fun z => by
      subst z
      by_cases hl : i < δ.length
      · rw [List.getElem?_set_self hl] at e1; cases e1
      · rw [List.getElem?_eq_none (by simpa using hl)] at e1; cases e1
    rw [List.getElem?_set_ne n1] at e1 e2
    exact r.fd j m p e1 e2
/-- nothing more is known of a slot -/
theorem Rel.forget {B : Bs} {S : Hp} {μ : Mem} {H : Hp} {σ : L2.St} {δ : Ss} (r : Rel K B S μ H σ δ) {i : Nat} {x : Option V} : Rel K B S μ H (σ.set i x) (δ.set i .no) := by
  refine ⟨r.r3, r.gr, r.lo, fun j s e => ?_, fun j k m n hjk e1 e2 => ?_, r.fr, fun j m p e1 e2 => ?_⟩
  · by_cases hj : i = j
    · subst hj
      by_cases hl : i < δ.length
      · rw [List.getElem?_set_self hl] at e
        cases e
        obtain ⟨y, e1, _⟩ := r.sl i δ[i] (by simp [hl])
        have hl2 : i < σ.length := (List.getElem?_eq_some_iff.mp e1).1
        exact ⟨x, by rw [List.getElem?_set_self hl2], trivial⟩
      · rw [List.getElem?_eq_none (by simpa using hl)] at e; cases e
    · rw [List.getElem?_set_ne hj] at e ⊢
      exact r.sl j s e
  · have n1 : i ≠ j := fun z => by
      subst z
      by_cases hl : i < δ.length
      · rw [List.getElem?_set_self hl] at e1; cases e1
      · rw [List.getElem?_eq_none (by simpa using hl)] at e1; cases e1
    have n2 : i ≠ k := fun z => by
      subst z
      by_cases hl : i < δ.length
      · rw [List.getElem?_set_self hl] at e2; cases e2
      · rw [List.getElem?_eq_none (by simpa using hl)] at e2; cases e2
    rw [List.getElem?_set_ne n1] at e1 ⊢
    rw [List.getElem?_set_ne n2] at e2 ⊢
    exact r.dj j k m n hjk e1 e2
  · have n1 : i ≠ j := fun z => by
      subst z
      by_cases hl : i < δ.length
      · rw [List.getElem?_set_self hl] at e1; cases e1
      · rw [List.getElem?_eq_none (by simpa using hl)] at e1; cases e1
    rw [List.getElem?_set_ne n1] at e1 e2
    exact r.fd j m p e1 e2
/-- a slot's own object is changed -/
theorem Rel.write {B : Bs} {S : Hp} {μ : Mem} {H : Hp} {σ : L2.St} {δ : Ss} (r : Rel K B S μ H σ δ) {i : Nat} {p : Addr} {o : HO} {m m0 : MO} (hi : δ[i]? = some (.own m0)) (hp : σ[i]? = some (some (.ref p))) (h : RepM K S m o) : Rel K B S μ (upd H p o) σ (δ.set i (.own m)) := by
  obtain ⟨x, e1, q, u, e2, hB, hs, hm, hu, hru⟩ := r.sl i _ hi
  rw [hp] at e1
  have e3 : some (V.ref p) = x := Option.some.inj e1
  rw [← e3] at e2
  cases e2
  have r3 : R3 K S μ (upd H p o) := ⟨fun a u e => exr_upd (S := S) (r.r3.ex a u e) (fun z => by rw [z, hs] at e; cases e), fun a n e => by
    obtain ⟨h1, u, h2, h3⟩ := r.r3.mu a n e
    exact ⟨h1, u, by rw [upd_ne (fun z => by rw [z, hm] at e; cases e)]; exact h2, h3⟩, r.r3.tb.w (oldX_some hu hru.nx) h.nx.nt⟩
  have hl : i < δ.length := (List.getElem?_eq_some_iff.mp hi).1
  have g' : Grow B.S B.μ B.H S μ (upd H p o) := ⟨r.gr.ex, r.gr.st, fun a u e he hz hy => by rw [upd_ne (ne_of_none e hB)]; exact r.gr.kp a u e he hz hy, r.gr.me, fun a u e => by rw [upd_ne (ne_of_none e hB)]; exact r.gr.th a u e⟩
  have hF : B.F p = none := r.fd i m0 p hi hp
  refine ⟨r3, g', r.lo, fun j s e => ?_, fun j k m' n hjk e1 e2 => ?_, fun q n e => ?_, fun j n q e1 e2 => ?_⟩
  · by_cases hj : i = j
    · subst hj
      rw [List.getElem?_set_self hl] at e
      cases e
      exact ⟨_, hp, p, o, rfl, hB, hs, hm, upd_same, h⟩
    · rw [List.getElem?_set_ne hj] at e
      obtain ⟨y, q1, q2⟩ := r.sl j s e
      refine ⟨y, q1, ?_⟩
      cases s with
      | no => trivial
      | val d => exact q2
      | own n =>
        obtain ⟨q, w, h1, hB', h2, h3, h4, h5⟩ := q2
        refine ⟨q, w, h1, hB', h2, h3, ?_, h5⟩
        rw [upd_ne (fun z => r.dj i j _ _ hj hi e (by rw [hp, q1, h1, z]))]
        exact h4
  · by_cases hj : i = j
    · subst hj
      rw [List.getElem?_set_ne hjk] at e2
      exact r.dj i k _ _ hjk hi e2
    · rw [List.getElem?_set_ne hj] at e1
      by_cases hk : i = k
      · subst hk
        exact r.dj j i _ _ hjk e1 hi
      · rw [List.getElem?_set_ne hk] at e2
        exact r.dj j k _ _ hjk e1 e2
  · obtain ⟨o', h0, h1, h2, h3, h4⟩ := r.fr q n e
    exact ⟨o', h0, h1, h2, by rw [upd_ne (fun z => by rw [z, hF] at e; cases e)]; exact h3, h4⟩
  · by_cases hj : i = j
    · subst hj
      rw [hp] at e2
      cases e2
      exact hF
    · rw [List.getElem?_set_ne hj] at e1
      exact r.fd j n q e1 e2
def frozen : MO → D
  | .lst l => .lst l
  | .dct l => .dct l
  | .dcT l => .dcT l
  | .obj C l => .obj C l
  | .lck _ _ l => .dct l
theorem RepM.frozen {S : Hp} {p : Addr} {m : MO} {o : HO} (hp : S p = none) (h : RepM K S m o) : Rep K (upd S p o) (frozen m) (.ref p) := by
  have e : Ex S (upd S p o) := Ex.new hp
  cases m with
  | lst l =>
    obtain ⟨vs, rfl, h⟩ := h
    exact ⟨p, vs, rfl, upd_same, RepL.mono e _ _ h⟩
  | dct l =>
    obtain ⟨vs, rfl, h⟩ := h
    exact ⟨p, vs, rfl, .inl upd_same, RepK.mono e _ _ h⟩
  | lck od kvs l =>
    obtain ⟨rfl, h⟩ := h
    exact ⟨p, kvs, rfl, .inr ⟨od, upd_same⟩, RepK.mono e _ _ h⟩
  | dcT l =>
    obtain ⟨vs, rfl, h⟩ := h
    exact ⟨p, vs, rfl, upd_same, RepT.mono e _ _ h⟩
  | obj C l =>
    obtain ⟨dx, vs, rfl, h⟩ := h
    exact ⟨p, dx, vs, rfl, upd_same, RepF.mono e _ _ h⟩
theorem Rel.freeze {B : Bs} {S : Hp} {μ : Mem} {H : Hp} {σ : L2.St} {δ : Ss} (r : Rel K B S μ H σ δ) {i : Nat} {m : MO} (hi : δ[i]? = some (.own m)) :
    ∃ S' v, σ[i]? = some (some v) ∧ Ex S S' ∧ Rel K B S' μ H σ (δ.set i (.val (frozen m))) ∧ Rep K S' (frozen m) v := by
  obtain ⟨x, e1, p, o, rfl, hB, hs, hm, hu, hr⟩ := r.sl i _ hi
  have e : Ex S (upd S p o) := Ex.new hs
  have hl : i < δ.length := (List.getElem?_eq_some_iff.mp hi).1
  have hf := RepM.frozen (K := K) hs hr
  refine ⟨upd S p o, .ref p, e1, e, ⟨⟨fun a u h => ?_, fun a n h => ?_, r.r3.tb.s (oldX_some hu hr.nx)⟩, ⟨r.gr.ex.trans e, fun a u h => ?_, r.gr.kp, r.gr.me, r.gr.th⟩, r.lo.trans e, fun j s h => ?_, fun j k m' n hjk h1 h2 => ?_, fun q n z => ?_, fun j n q z1 z2 => ?_⟩, hf⟩
  · by_cases ha : a = p
    · subst ha; rw [upd_same] at h; cases h; exact .inl ⟨hu, hr.notMet⟩
    · rw [upd_ne ha] at h; exact r.r3.ex a u h
  · have ha : a ≠ p := fun z => by rw [z, hm] at h; cases h
    obtain ⟨h1, u, h2, h3⟩ := r.r3.mu a n h
    exact ⟨by rw [upd_ne ha]; exact h1, u, h2, RepM.mono e n u h3⟩
  · by_cases ha : a = p
    · subst ha; exact .inr (.inl hB)
    · rw [upd_ne ha] at h; exact r.gr.st a u h
  · by_cases hj : i = j
    · subst hj
      rw [List.getElem?_set_self hl] at h
      cases h
      exact ⟨_, e1, _, rfl, hf⟩
    · rw [List.getElem?_set_ne hj] at h
      obtain ⟨y, q1, q2⟩ := r.sl j s h
      refine ⟨y, q1, ?_⟩
      cases s with
      | no => trivial
      | val d =>
        obtain ⟨v, z1, z2⟩ := q2
        exact ⟨v, z1, Rep.mono e d v z2⟩
      | own n =>
        obtain ⟨q, w, h1, hB', h2, h3, h4, h5⟩ := q2
        refine ⟨q, w, h1, hB', ?_, h3, h4, RepM.mono e n w h5⟩
        rw [upd_ne (fun z => r.dj i j _ _ hj hi h (by rw [e1, q1, h1, z]))]
        exact h2
  · have n1 : i ≠ j := fun z => by
      subst z
      rw [List.getElem?_set_self hl] at h1; cases h1
    have n2 : i ≠ k := fun z => by
      subst z
      rw [List.getElem?_set_self hl] at h2; cases h2
    rw [List.getElem?_set_ne n1] at h1
    rw [List.getElem?_set_ne n2] at h2
    exact r.dj j k m' n hjk h1 h2
  · obtain ⟨o', h0, h1, h2, h3, h4⟩ := r.fr q n z
    exact ⟨o', h0, by rw [upd_ne (fun y => by rw [y, r.fd i m p hi e1] at z; cases z)]; exact h1, h2, h3, RepM.mono e n o' h4⟩
  · have n1 : i ≠ j := fun y => by
      subst y
      rw [List.getElem?_set_self hl] at z1; cases z1
    rw [List.getElem?_set_ne n1] at z1
    exact r.fd j n q z1 z2
theorem Rel.low {B : Bs} {S : Hp} {μ : Mem} {H : Hp} {σ : L2.St} {δ : Ss} {L : Hp} (r : Rel K B S μ H σ δ) (h : Ex L S) : Rel K { B with L := L } S μ H σ δ := ⟨r.r3, r.gr, h, r.sl, r.dj, r.fr, r.fd⟩
/-- an object that nothing else holds -/
structure Fresh (B : Bs) (S : Hp) (μ : Mem) (H : Hp) (σ : L2.St) (δ : Ss) (p : Addr) (o : HO) : Prop where
  b : B.H p = none
  s : S p = none
  m : μ p = none
  h : H p = some o
  d : ∀ (i : Nat) (m : MO), δ[i]? = some (.own m) → σ[i]? ≠ some (some (.ref p))
  f : B.F p = none
theorem Rel.fresh {B : Bs} {S : Hp} {μ : Mem} {H : Hp} {σ : L2.St} {δ : Ss} (r : Rel K B S μ H σ δ) {p : Addr} {o : HO} (hp : H p = none) (ho : notTbl o := by exact fun _ z => nomatch z) : Rel K B S μ (upd H p o) σ δ ∧ Fresh B S μ (upd H p o) σ δ p o := by
  obtain ⟨hs, hm⟩ := r.r3.free hp
  have g : Grow S μ H S μ (upd H p o) := ⟨Ex.refl S, fun _ _ e => .inl e, fun a u e _ _ _ => by rw [upd_ne (ne_of_none e hp)]; exact e, fun a n e => .inl (by rw [e]; rfl), th_upd⟩
  have r3 : R3 K S μ (upd H p o) := ⟨fun a u e => exr_upd (S := S) (r.r3.ex a u e) (fun z => by rw [z, hs] at e; cases e), fun a n e => by
    obtain ⟨h1, u, h2, h3⟩ := r.r3.mu a n e
    exact ⟨h1, u, by rw [upd_ne (ne_of_none h2 hp)]; exact h2, h3⟩, r.r3.tb.w (oldX_none hp) ho⟩
  have hB : B.H p = none := by
    cases e : B.H p with
    | none => rfl
    | some o' =>
      obtain ⟨o'', q⟩ := r.gr.th p o' e
      rw [hp] at q; cases q
  have hF : B.F p = none := by
    cases e : B.F p with
    | none => rfl
    | some m =>
      obtain ⟨o', _, _, _, h3, _⟩ := r.fr p m e
      rw [hp] at h3; cases h3
  refine ⟨r.grow g r3, hB, hs, hm, upd_same, fun i m e z => ?_, hF⟩
  obtain ⟨y, q1, q, u, q2, _, _, _, q3, _⟩ := r.sl i _ e
  rw [q1] at z
  have z1 : y = some (V.ref p) := Option.some.inj z
  have z2 := q2.symm.trans z1
  cases z2
  rw [hp] at q3; cases q3
/-- a fresh object becomes a slot's own -/
theorem Rel.ownF {B : Bs} {S : Hp} {μ : Mem} {H : Hp} {σ : L2.St} {δ : Ss} {i : Nat} {p : Addr} {o : HO} {m : MO} (r : Rel K B S μ H σ δ) (f : Fresh B S μ H σ δ p o) (h : RepM K S m o) : Rel K B S μ H (σ.set i (some (.ref p))) (δ.set i (.own m)) := by
  refine ⟨r.r3, r.gr, r.lo, fun j s e => ?_, fun j k m' n hjk e1 e2 => ?_, r.fr, fun j n q e1 e2 => ?_⟩
  · by_cases hj : i = j
    · subst hj
      by_cases hl : i < δ.length
      · rw [List.getElem?_set_self hl] at e
        cases e
        obtain ⟨y, e1, _⟩ := r.sl i δ[i] (by simp [hl])
        have hl2 : i < σ.length := (List.getElem?_eq_some_iff.mp e1).1
        exact ⟨_, by rw [List.getElem?_set_self hl2], p, o, rfl, f.b, f.s, f.m, f.h, h⟩
      · rw [List.getElem?_eq_none (by simpa using hl)] at e; cases e
    · rw [List.getElem?_set_ne hj] at e ⊢
      exact r.sl j s e
  · have inr : ∀ (x : MO), (δ.set i (.own m))[i]? = some (.own x) → (σ.set i (some (.ref p)))[i]? = some (some (.ref p)) := fun x e => by
      by_cases hl : i < δ.length
      · obtain ⟨y, e1, _⟩ := r.sl i δ[i] (by simp [hl])
        have hl2 : i < σ.length := (List.getElem?_eq_some_iff.mp e1).1
        rw [List.getElem?_set_self hl2]
      · rw [List.getElem?_eq_none (by simpa using hl)] at e; cases e
    by_cases hj : i = j
    · subst hj
      rw [inr _ e1]
      rw [List.getElem?_set_ne hjk] at e2 ⊢
      exact fun z => f.d k n e2 z.symm
    · by_cases hk : i = k
      · subst hk
        rw [inr _ e2]
        rw [List.getElem?_set_ne hj] at e1 ⊢
        exact f.d j m' e1
      · rw [List.getElem?_set_ne hj] at e1 ⊢
        rw [List.getElem?_set_ne hk] at e2 ⊢
        exact r.dj j k m' n hjk e1 e2
  · by_cases hj : i = j
    · subst hj
      by_cases hl : i < δ.length
      · obtain ⟨y, e3, _⟩ := r.sl i δ[i] (by simp [hl])
        have hl2 : i < σ.length := (List.getElem?_eq_some_iff.mp e3).1
        rw [List.getElem?_set_self hl2] at e2
        cases e2
        exact f.f
      · rw [List.getElem?_eq_none (by simpa using hl)] at e1; cases e1
    · rw [List.getElem?_set_ne hj] at e1 e2
      exact r.fd j n q e1 e2
/-- a fresh object is frozen -/
theorem Rel.iceF {B : Bs} {S : Hp} {μ : Mem} {H : Hp} {σ : L2.St} {δ : Ss} {p : Addr} {o : HO} {m : MO} (r : Rel K B S μ H σ δ) (f : Fresh B S μ H σ δ p o) (hm : RepM K S m o) : Ex S (upd S p o) ∧ Rel K B (upd S p o) μ H σ δ ∧ Rep K (upd S p o) (frozen m) (.ref p) := by
  have e : Ex S (upd S p o) := Ex.new f.s
  refine ⟨e, ⟨⟨fun a u h => ?_, fun a n h => ?_, r.r3.tb.s (oldX_some f.h hm.nx)⟩, ⟨r.gr.ex.trans e, fun a u h => ?_, r.gr.kp, r.gr.me, r.gr.th⟩, r.lo.trans e, fun j s h => ?_, r.dj, fun q n z => ?_, r.fd⟩, RepM.frozen f.s hm⟩
  · by_cases ha : a = p
    · subst ha; rw [upd_same] at h; cases h; exact .inl ⟨f.h, hm.notMet⟩
    · rw [upd_ne ha] at h; exact r.r3.ex a u h
  · have ha : a ≠ p := fun z => by rw [z, f.m] at h; cases h
    obtain ⟨h1, u, h2, h3⟩ := r.r3.mu a n h
    exact ⟨by rw [upd_ne ha]; exact h1, u, h2, RepM.mono e n u h3⟩
  · by_cases ha : a = p
    · subst ha; exact .inr (.inl f.b)
    · rw [upd_ne ha] at h; exact r.gr.st a u h
  · obtain ⟨y, q1, q2⟩ := r.sl j s h
    refine ⟨y, q1, ?_⟩
    cases s with
    | no => trivial
    | val d =>
      obtain ⟨v, z1, z2⟩ := q2
      exact ⟨v, z1, Rep.mono e d v z2⟩
    | own n =>
      obtain ⟨q, w, h1, hB', h2, h3, h4, h5⟩ := q2
      refine ⟨q, w, h1, hB', ?_, h3, h4, RepM.mono e n w h5⟩
      rw [upd_ne (fun z => f.d j n h (by rw [q1, h1, z]))]
      exact h2
  · obtain ⟨o', h0, h1, h2, h3, h4⟩ := r.fr q n z
    exact ⟨o', h0, by rw [upd_ne (fun y => by rw [y, f.f] at z; cases z)]; exact h1, h2, h3, RepM.mono e n o' h4⟩
def updF (F : Addr → Option MO) (a : Addr) (m : MO) : Addr → Option MO := fun b => if b = a then some m else F b
/-- a fresh object is put aside: nothing touches it -/
theorem Rel.aside {B : Bs} {S : Hp} {μ : Mem} {H : Hp} {σ : L2.St} {δ : Ss} {p : Addr} {o : HO} {m : MO} (r : Rel K B S μ H σ δ) (f : Fresh B S μ H σ δ p o) (h : RepM K S m o) : Rel K { B with F := updF B.F p m } S μ H σ δ := by
  refine ⟨r.r3, r.gr, r.lo, r.sl, r.dj, fun q n e => ?_, fun i n q e1 e2 => ?_⟩
  · by_cases hq : q = p
    · subst hq
      have e : updF B.F q m q = some n := e
      unfold updF at e
      rw [if_pos rfl] at e
      cases e
      exact ⟨o, f.b, f.s, f.m, f.h, h⟩
    · have e : updF B.F p m q = some n := e
      unfold updF at e
      rw [if_neg hq] at e
      exact r.fr q n e
  · have hq : q ≠ p := fun z => by
      subst z
      exact f.d i n e1 e2
    show updF B.F p m q = none
    unfold updF
    rw [if_neg hq]
    exact r.fd i n q e1 e2
/-- .. and taken again -/
theorem Rel.again {B : Bs} {S : Hp} {μ : Mem} {H : Hp} {σ : L2.St} {δ : Ss} {p : Addr} {m : MO} (hn : B.F p = none) (r : Rel K { B with F := updF B.F p m } S μ H σ δ) : Rel K B S μ H σ δ ∧ ∃ o, Fresh B S μ H σ δ p o ∧ RepM K S m o := by
  refine ⟨⟨r.r3, r.gr, r.lo, r.sl, r.dj, fun q n e => ?_, fun i n q e1 e2 => ?_⟩, ?_⟩
  · have hq : q ≠ p := fun z => by rw [z, hn] at e; cases e
    exact r.fr q n (by show updF B.F p m q = some n; unfold updF; rw [if_neg hq]; exact e)
  · have z : updF B.F p m q = none := r.fd i n q e1 e2
    unfold updF at z
    by_cases hq : q = p
    · rw [hq]; exact hn
    · rw [if_neg hq] at z; exact z
  · obtain ⟨o, h0, h1, h2, h3, h4⟩ := r.fr p m (by show updF B.F p m p = some m; unfold updF; rw [if_pos rfl])
    refine ⟨o, ⟨h0, h1, h2, h3, fun i n e z => ?_, hn⟩, h4⟩
    have y : updF B.F p m p = none := r.fd i n p e z
    unfold updF at y
    rw [if_pos rfl] at y
    cases y
/-- a fresh object is changed -/
theorem Rel.writeF {B : Bs} {S : Hp} {μ : Mem} {H : Hp} {σ : L2.St} {δ : Ss} {p : Addr} {o o' : HO} (r : Rel K B S μ H σ δ) (f : Fresh B S μ H σ δ p o) (ho : NX o) (ho' : NX o' := by trivial) : Rel K B S μ (upd H p o') σ δ ∧ Fresh B S μ (upd H p o') σ δ p o' := by
  have ne : ∀ a, (∃ u, B.H a = some u) → a ≠ p := fun a ⟨u, e⟩ z => by rw [z, f.b] at e; cases e
  refine ⟨⟨⟨fun a u e => ?_, fun a n e => ?_, r.r3.tb.w (oldX_some f.h ho) ho'.nt⟩, ⟨r.gr.ex, r.gr.st, fun a u e he hz hy => by rw [upd_ne (ne a ⟨u, e⟩)]; exact r.gr.kp a u e he hz hy, r.gr.me, fun a u e => by rw [upd_ne (ne a ⟨u, e⟩)]; exact r.gr.th a u e⟩, r.lo, fun i s e => ?_, r.dj, fun q n e => ?_, r.fd⟩, ⟨f.b, f.s, f.m, upd_same, f.d, f.f⟩⟩
  · exact exr_upd (S := S) (r.r3.ex a u e) (fun z => by rw [z, f.s] at e; cases e)
  · obtain ⟨h1, u, h2, h3⟩ := r.r3.mu a n e
    exact ⟨h1, u, by rw [upd_ne (fun z => by rw [z, f.m] at e; cases e)]; exact h2, h3⟩
  · obtain ⟨y, q1, q2⟩ := r.sl i s e
    refine ⟨y, q1, ?_⟩
    cases s with
    | no => trivial
    | val d => exact q2
    | own n =>
      obtain ⟨q, w, h1, hB', h2, h3, h4, h5⟩ := q2
      refine ⟨q, w, h1, hB', h2, h3, ?_, h5⟩
      rw [upd_ne (fun z => f.d i n e (by rw [q1, h1, z]))]
      exact h4
  · obtain ⟨u, h0, h1, h2, h3, h4⟩ := r.fr q n e
    exact ⟨u, h0, h1, h2, by rw [upd_ne (fun z => by rw [z, f.f] at e; cases e)]; exact h3, h4⟩
/-- a new draw -/
theorem R3.drwNew {S : Hp} {μ : Mem} {H : Hp} (r : R3 K S μ H) {p sa : Addr} (h : H p = none) : R3 K (upd S p (.met sa sa)) μ (upd H p (.lst [.ref sa, .int 0])) ∧ Grow S μ H (upd S p (.met sa sa)) μ (upd H p (.lst [.ref sa, .int 0])) := by
  obtain ⟨hs, hm⟩ := r.free h
  refine ⟨⟨fun a u e => ?_, fun a m e => ?_, (r.tb.s (oldX_none h)).w (oldX_none h) (fun _ z => nomatch z)⟩, ⟨Ex.new hs, fun a u e => ?_, fun a u e _ _ _ => ?_, fun a m e => .inl (by rw [e]; rfl), th_upd⟩⟩
  · by_cases ha : a = p
    · subst ha; rw [upd_same] at e; cases e; exact .inr (.inr ⟨sa, 0, rfl, upd_same, Int.le_refl 0⟩)
    · rw [upd_ne ha] at e; exact exr_upd (S := S) (r.ex a u e) ha
  · have ha : a ≠ p := fun z => by rw [z, hm] at e; cases e
    obtain ⟨h1, u, h2, h3⟩ := r.mu a m e
    exact ⟨by rw [upd_ne ha]; exact h1, u, by rw [upd_ne ha]; exact h2, RepM.mono (Ex.new hs) m u h3⟩
  · by_cases ha : a = p
    · subst ha; exact .inr (.inl h)
    · rw [upd_ne ha] at e; exact .inl e
  · rw [upd_ne (ne_of_none e h)]; exact e
/-- one more is drawn -/
theorem R3.drwSet {S : Hp} {μ : Mem} {H : Hp} (r : R3 K S μ H) {p sa : Addr} {n : Int} (h : S p = some (.met sa sa)) (hn : 0 ≤ n) : R3 K S μ (upd H p (.lst [.ref sa, .int n])) ∧ Grow S μ H S μ (upd H p (.lst [.ref sa, .int n])) := by
  obtain ⟨n0, hl0, _⟩ := r.ex.drw h
  refine ⟨⟨fun a u e => ?_, fun a m e => ?_, r.tb.w (oldX_some hl0 trivial) (fun _ z => nomatch z)⟩, ⟨Ex.refl S, fun a u e => .inl e, fun a u e _ hz _ => ?_, fun a m e => .inl (by rw [e]; rfl), th_upd⟩⟩
  · by_cases ha : a = p
    · subst ha; rw [h] at e; cases e; exact .inr (.inr ⟨sa, n, rfl, upd_same, hn⟩)
    · exact exr_upd (S := S) (r.ex a u e) ha
  · obtain ⟨h1, u, h2, h3⟩ := r.mu a m e
    have ha : a ≠ p := fun z => by rw [z, h] at h1; cases h1
    exact ⟨h1, u, by rw [upd_ne ha]; exact h2, h3⟩
  · rw [upd_ne (fun z => hz sa (by rw [z]; exact h))]; exact e
/-- the same base -/
structure SameB (Z B : Bs) : Prop where
  s : B.S = Z.S
  m : B.μ = Z.μ
  h : B.H = Z.H
  l : Ex Z.L B.L
  f : ∀ p m, Z.F p = some m → B.F p = some m
theorem SameB.refl (Z : Bs) : SameB Z Z := ⟨rfl, rfl, rfl, Ex.refl _, fun _ _ h => h⟩
theorem SameB.trans {A B C : Bs} (a : SameB A B) (b : SameB B C) : SameB A C := ⟨b.s.trans a.s, b.m.trans a.m, b.h.trans a.h, a.l.trans b.l, fun p m h => b.f p m (a.f p m h)⟩
theorem SameB.low {Z B : Bs} (a : SameB Z B) {L : Hp} (h : Ex B.L L) : SameB Z { B with L := L } := ⟨a.s, a.m, a.h, a.l.trans h, a.f⟩
theorem SameB.aside {Z B : Bs} (a : SameB Z B) {p : Addr} {m : MO} (h : B.F p = none) : SameB Z { B with F := updF B.F p m } := ⟨a.s, a.m, a.h, a.l, fun q n e => by
  have z := a.f q n e
  show updF B.F p m q = some n
  unfold updF
  rw [if_neg (fun y => by rw [y, h] at z; cases z)]
  exact z⟩
theorem RepO.base {Z B : Bs} {S : Hp} {μ : Mem} {H : Hp} (e : B.H = Z.H) : ∀ {s : SL} {x : Option V}, RepO K B S μ H s x → RepO K Z S μ H s x
  | .no, _, h => h
  | .val d, _, h => h
  | .own m, _, h => by
    obtain ⟨p, o, h1, h2, h3⟩ := h
    exact ⟨p, o, h1, e ▸ h2, h3⟩
theorem Rel.back {Z B : Bs} {S : Hp} {μ : Mem} {H : Hp} {σ : L2.St} {δ : Ss} (r : Rel K B S μ H σ δ) (a : SameB Z B) : Rel K Z S μ H σ δ := by
  refine ⟨r.r3, ?_, a.l.trans r.lo, fun i s e => ?_, r.dj, fun p m e => ?_, fun i m p e1 e2 => ?_⟩
  · have g := r.gr
    rw [a.s, a.m, a.h] at g
    exact g
  · obtain ⟨x, e1, h⟩ := r.sl i s e
    exact ⟨x, e1, RepO.base a.h h⟩
  · obtain ⟨o, h⟩ := r.fr p m (a.f p m e)
    rw [a.h] at h
    exact ⟨o, h⟩
  · have z := r.fd i m p e1 e2
    cases q : Z.F p with
    | none => rfl
    | some n => rw [a.f p n q] at z; cases z
end Dl

namespace Dl
open PySem L2
abbrev QE := D → Ss → Mem → Prop
abbrev DE := Ss → Mem → QE → Prop
abbrev DT := Ss → Mem → (Bool → Ss → Mem → Prop) → Prop
abbrev DA := Ss → Mem → (List D → Ss → Mem → Prop) → Prop
abbrev DO := Ss → Mem → (Option Int → Ss → Mem → Prop) → Prop
abbrev QM := D → Mem → Prop
abbrev DR := D → D → Mem → QM → Prop
abbrev DC := List D → Mem → QM → Prop
abbrev XF := Option (List (Str × D))
abbrev DX := Str → XF → Mem → Prop
abbrev DXW := Str → XF → Ss → Mem → Prop
structure DEnds where
  nx : Ss → Mem → Prop
  rt : QM
  bk : Ss → Mem → Prop := fun _ _ => False
  ct : Ss → Mem → Prop := fun _ _ => False
abbrev DS := DEnds → Ss → Mem → Prop
structure Lift (K : PySem.W.Frag) (B : Bs) (D : Ends) (DD : DEnds) : Prop where
  nx : ∀ S μ H σ δ, Rel K B S μ H σ δ → DD.nx δ μ → D.nx σ H
  rt : ∀ S μ H v d, R3 K S μ H → Grow B.S B.μ B.H S μ H → Rep K S d v → DD.rt d μ → D.rt v H
  bk : ∀ S μ H σ δ, Rel K B S μ H σ δ → DD.bk δ μ → D.bk σ H
  ct : ∀ S μ H σ δ, Rel K B S μ H σ δ → DD.ct δ μ → D.ct σ H
def SimE (K : PySem.W.Frag) (Z : Bs) (te : TE) (de : DE) : Prop := ∀ (B : Bs) (_ : SameB Z B) (S : Hp) (μ : Mem) (H : Hp) (σ : L2.St) (δ : Ss) (Q : VK) (QD : QE), Rel K B S μ H σ δ →
  (∀ S' μ' H' δ' v d, Ex S S' → Rel K B S' μ' H' σ δ' → Rep K S' d v → QD d δ' μ' → Q v H') → de δ μ QD → te σ H Q
def SimT (K : PySem.W.Frag) (Z : Bs) (te : TT) (de : DT) : Prop := ∀ (B : Bs) (_ : SameB Z B) (S : Hp) (μ : Mem) (H : Hp) (σ : L2.St) (δ : Ss) (Q : Bool → Hp → Prop) (QD : Bool → Ss → Mem → Prop), Rel K B S μ H σ δ →
  (∀ S' μ' H' δ' b, Ex S S' → Rel K B S' μ' H' σ δ' → QD b δ' μ' → Q b H') → de δ μ QD → te σ H Q
def SimA (K : PySem.W.Frag) (Z : Bs) (te : TA) (de : DA) : Prop := ∀ (B : Bs) (_ : SameB Z B) (S : Hp) (μ : Mem) (H : Hp) (σ : L2.St) (δ : Ss) (Q : List V → Hp → Prop) (QD : List D → Ss → Mem → Prop), Rel K B S μ H σ δ →
  (∀ S' μ' H' δ' vs ds, Ex S S' → Rel K B S' μ' H' σ δ' → RepL K S' ds vs → QD ds δ' μ' → Q vs H') → de δ μ QD → te σ H Q
def SimO (K : PySem.W.Frag) (Z : Bs) (te : TO) (de : DO) : Prop := ∀ (B : Bs) (_ : SameB Z B) (S : Hp) (μ : Mem) (H : Hp) (σ : L2.St) (δ : Ss) (Q : Option Int → Hp → Prop) (QD : Option Int → Ss → Mem → Prop), Rel K B S μ H σ δ →
  (∀ S' μ' H' δ' b, Ex S S' → Rel K B S' μ' H' σ δ' → QD b δ' μ' → Q b H') → de δ μ QD → te σ H Q
def SimS (K : PySem.W.Frag) (Z : Bs) (ts : TS) (ds : DS) : Prop := ∀ (B : Bs) (_ : SameB Z B) (S : Hp) (μ : Mem) (H : Hp) (σ : L2.St) (δ : Ss) (E : Ends) (DD : DEnds), Rel K B S μ H σ δ → Lift K B E DD → ds DD δ μ → ts E σ H
abbrev DG := D → Ss → Mem → (Ss → Mem → Prop) → Prop
def SimG (K : PySem.W.Frag) (Z : Bs) (g : TG) (dg : DG) : Prop := ∀ (B : Bs) (_ : SameB Z B) (S : Hp) (μ : Mem) (H : Hp) (σ : L2.St) (δ : Ss) (v : V) (d : D) (Q : L2.St → Hp → Prop) (QD : Ss → Mem → Prop), Rel K B S μ H σ δ → Rep K S d v →
  (∀ S' μ' H' σ' δ', Ex S S' → Rel K B S' μ' H' σ' δ' → QD δ' μ' → Q σ' H') → dg d δ μ QD → g v σ H Q
abbrev DGs := List D → Ss → Mem → (Ss → Mem → Prop) → Prop
def SimGs (K : PySem.W.Frag) (Z : Bs) (g : TGs) (dg : DGs) : Prop := ∀ (B : Bs) (_ : SameB Z B) (S : Hp) (μ : Mem) (H : Hp) (σ : L2.St) (δ : Ss) (v : List V) (d : List D) (Q : L2.St → Hp → Prop) (QD : Ss → Mem → Prop), Rel K B S μ H σ δ → RepL K S d v →
  (∀ S' μ' H' σ' δ', Ex S S' → Rel K B S' μ' H' σ' δ' → QD δ' μ' → Q σ' H') → dg d δ μ QD → g v σ H Q
/-- what a walk yields, while G holds of the memory -/
structure Wk (K : PySem.W.Frag) (S0 : Hp) (J : It) (ds : List D) (G : Mem → Prop) : Prop where
  goes : ∀ S μ H i, Ex S0 S → R3 K S μ H → G μ → i < ds.length → J.go i H
  stops : ∀ S μ H, Ex S0 S → R3 K S μ H → G μ → J.stop ds.length H
  yields : ∀ S μ H i d x H', Ex S0 S → R3 K S μ H → G μ → ds[i]? = some d → J.yld i H x H' → ∃ S', Grow S μ H S' μ H' ∧ R3 K S' μ H' ∧ Rep K S' d x
abbrev DI := Ss → Mem → (List D → (Mem → Prop) → Ss → Mem → Prop) → Prop
def SimI (K : PySem.W.Frag) (Z : Bs) (wi : TI) (di : DI) : Prop := ∀ (B : Bs) (_ : SameB Z B) (S : Hp) (μ : Mem) (H : Hp) (σ : L2.St) (δ : Ss) (Q : It → Hp → Prop) (QD : List D → (Mem → Prop) → Ss → Mem → Prop), Rel K B S μ H σ δ →
  (∀ S' μ' H' δ' J ds G, Ex S S' → Rel K B S' μ' H' σ δ' → Wk K S' J ds G → QD ds G δ' μ' → Q J H') → di δ μ QD → wi σ H Q
def SimR (K : PySem.W.Frag) (r : R2) (dr : DR) : Prop := ∀ (S : Hp) (μ : Mem) (H : Hp) (x y : V) (dx dy : D) (Q : VK) (QD : QM), R3 K S μ H → Rep K S dx x → Rep K S dy y →
  (∀ S' μ' H' v d, Grow S μ H S' μ' H' → R3 K S' μ' H' → Rep K S' d v → QD d μ' → Q v H') → dr dx dy μ QD → r x y H Q
def SimC (K : PySem.W.Frag) (r : List V → Hp → VK → Prop) (dr : DC) : Prop := ∀ (S : Hp) (μ : Mem) (H : Hp) (xs : List V) (ds : List D) (Q : VK) (QD : QM), R3 K S μ H → RepL K S ds xs →
  (∀ S' μ' H' v d, Grow S μ H S' μ' H' → R3 K S' μ' H' → Rep K S' d v → QD d μ' → Q v H') → dr ds μ QD → r xs H Q
structure PD (K : PySem.W.Frag) (Z : Bs) (X : Cx) (e : Expr) (te : TE) (de : DE) : Prop where
  p : PE X e te
  s : SimE K Z te de
structure PDT (K : PySem.W.Frag) (Z : Bs) (X : Cx) (e : Expr) (te : TT) (de : DT) : Prop where
  p : PT X e te
  s : SimT K Z te de
structure PDA (K : PySem.W.Frag) (Z : Bs) (X : Cx) (e : List Expr) (te : TA) (de : DA) : Prop where
  p : PA X e te
  s : SimA K Z te de
structure PDO (K : PySem.W.Frag) (Z : Bs) (X : Cx) (e : Option Expr) (te : TO) (de : DO) : Prop where
  p : PO X e te
  s : SimO K Z te de
structure PDS (K : PySem.W.Frag) (Z : Bs) (X : Cx) (e : Stmt) (te : TS) (de : DS) : Prop where
  p : PS X e te
  s : SimS K Z te de
structure PDSs (K : PySem.W.Frag) (Z : Bs) (X : Cx) (e : List Stmt) (te : TS) (de : DS) : Prop where
  p : PSs X e te
  s : SimS K Z te de
structure PDG (K : PySem.W.Frag) (Z : Bs) (X : Cx) (e : Expr) (g : TG) (dg : DG) : Prop where
  p : PG X e g
  s : SimG K Z g dg
structure PDGs (K : PySem.W.Frag) (Z : Bs) (X : Cx) (e : List Expr) (g : TGs) (dg : DGs) : Prop where
  p : PGs X e g
  s : SimGs K Z g dg
structure PDI (K : PySem.W.Frag) (Z : Bs) (X : Cx) (tg e : Expr) (wi : TI) (di : DI) : Prop where
  p : PI X tg e wi
  s : SimI K Z wi di
structure PDOp (K : PySem.W.Frag) (X : Cx) (f : Value → Value → Sem Value) (r : R2) (dr : DR) : Prop where
  p : OpR X f r
  s : SimR K r dr
structure PDIx (K : PySem.W.Frag) (X : Cx) (r : R2) (dr : DR) : Prop where
  p : IxR X r
  s : SimR K r dr
structure PDC (K : PySem.W.Frag) (X : Cx) (f : Value) (r : List V → Hp → VK → Prop) (dr : DC) : Prop where
  p : CallR X f r
  s : SimC K r dr
variable {X : Cx} {K : PySem.W.Frag} {Z : Bs}
/-! ### lemmas on Rep -/
theorem exr_l {S H : Hp} {a : Addr} {xs : List V} (e : ExR S H) (h : SqL K S a xs) : SqL K H a xs := by
  rcases h with (h | ⟨o, h⟩) | h
  · rcases e.at h trivial with q | ⟨q, _⟩
    · exact .inl (.inl q)
    · exact q.elim
  · rcases e.at h trivial with q | ⟨q, _⟩
    · exact .inl (.inr ⟨o, q⟩)
    · exact q.elim
  · exact .inr h
theorem exr_t {S H : Hp} {a : Addr} {xs : List V} (e : ExR S H) (h : SqT K S a xs) : SqT K H a xs := by
  rcases h with (h | ⟨o, h⟩) | h
  · rcases e.at h trivial with q | ⟨q, _⟩
    · exact .inl (.inl q)
    · exact q.elim
  · rcases e.at h trivial with q | ⟨q, _⟩
    · exact .inl (.inr ⟨o, q⟩)
    · exact q.elim
  · exact .inr h
theorem exr_lst {S H : Hp} {a : Addr} {xs : List V} (e : ExR S H) (h : S a = some (.lst xs)) : H a = some (.lst xs) := by
  rcases e.at h trivial with q | ⟨q, _⟩
  · exact q
  · exact q.elim
theorem exr_ins {S H : Hp} {a C dx : Addr} {fs : List (Str × V)} (e : ExR S H) (h : S a = some (.ins C dx fs)) : H a = some (.ins C dx fs) := by
  rcases e.at h trivial with q | ⟨q, _⟩
  · exact q
  · exact q.elim
theorem exr_rd {S H : Hp} {a : Addr} {u : HO} (e : ExR S H) (h : Rd S a u) (hn : notMet u := by trivial) : Rd H a u := by
  rcases h with h | ⟨o, h⟩
  · rcases e.at h hn with q | ⟨_, q⟩
    · exact .inl q
    · exact .inr q
  · rcases e.at h trivial with q | ⟨q, _⟩
    · exact .inr ⟨o, q⟩
    · exact q.elim
/-! ### expressions -/
def dVar (i : Nat) : DE := fun δ μ Q => ∃ d, δ[i]? = some (.val d) ∧ Q d δ μ
/-- a name whose object is the slot's own: it is frozen by the reading -/
def dVarF (i : Nat) : DE := fun δ μ Q => ∃ m, δ[i]? = some (.own m) ∧ Q (frozen m) (δ.set i (.val (frozen m))) μ
theorem Rel.var {B : Bs} {S : Hp} {μ : Mem} {H : Hp} {σ : L2.St} {δ : Ss} (r : Rel K B S μ H σ δ) {i : Nat} {d : D} (h : δ[i]? = some (.val d)) : ∃ v, σ[i]? = some (some v) ∧ Rep K S d v := by
  obtain ⟨x, e1, v, rfl, h1⟩ := r.sl i _ h
  exact ⟨v, e1, h1⟩
theorem d_var (i : Nat) {x : Str} {pos : Pos} (hN : X.N[i]? = some x := by rfl) (hv : Vis X.env.scope x := by first | exact Or.inl rfl | exact Or.inr (Or.inl rfl) | exact Or.inr (Or.inr rfl)) (hd : (x == ("__debug__" : Str)) = false := by decide) (hcd : (x == ("__classdict__" : Str)) = false := by decide) :
    PD K Z X (.Name x pos) (tVar i) (dVar i) := ⟨pe_var hN hv hd hcd, fun B hB S μ H σ δ Q QD r k h => by
  obtain ⟨d, e, q⟩ := h
  obtain ⟨v, e1, h1⟩ := r.var e
  exact ⟨v, e1, k S μ H δ v d (Ex.refl S) r h1 q⟩⟩
theorem d_varF (i : Nat) {x : Str} {pos : Pos} (hN : X.N[i]? = some x := by rfl) (hv : Vis X.env.scope x := by first | exact Or.inl rfl | exact Or.inr (Or.inl rfl) | exact Or.inr (Or.inr rfl)) (hd : (x == ("__debug__" : Str)) = false := by decide) (hcd : (x == ("__classdict__" : Str)) = false := by decide) :
    PD K Z X (.Name x pos) (tVar i) (dVarF i) := ⟨pe_var hN hv hd hcd, fun B hB S μ H σ δ Q QD r k h => by
  obtain ⟨m, e, q⟩ := h
  obtain ⟨S', v, e1, x1, r1, h1⟩ := r.freeze e
  exact ⟨v, e1, k S' μ H _ v _ x1 r1 h1 q⟩⟩
def dC (d : D) : DE := fun δ μ Q => Q d δ μ
theorem simC {v : V} {d : D} (h : ∀ S, Rep K S d v) : SimE K Z (tC v) (dC d) := fun B hB S μ H σ δ Q QD r k q => k S μ H δ v d (Ex.refl S) r (h S) q
theorem d_int {i j pos} : PD K Z X (.Constant (.int i) j pos) (tC (.int i)) (dC (.int i)) := ⟨pe_int, simC fun _ => rfl⟩
theorem d_bl {b j pos} : PD K Z X (.Constant (.bool b) j pos) (tC (.bl b)) (dC (.bl b)) := ⟨pe_bl, simC fun _ => rfl⟩
theorem d_non {j pos} : PD K Z X (.Constant .none j pos) (tC .non) (dC .non) := ⟨pe_non, simC fun _ => rfl⟩
theorem d_str {x j pos} : PD K Z X (.Constant (.str x) j pos) (tC (.str x)) (dC (.str x)) := ⟨pe_str, simC fun _ => rfl⟩
theorem d_globI {x : Str} {pos : Pos} {i : Int} {u : Value} (hg : Gl X x) (hm : X.mg x = some u) (r : RelV (.int i) u) (hd : (x == ("__debug__" : Str)) = false := by decide) : PD K Z X (.Name x pos) (tC (.int i)) (dC (.int i)) := ⟨pe_glob hg hm r hd, simC fun _ => rfl⟩
theorem d_globR {x : Str} {pos : Pos} {a : Addr} (hg : Gl X x) (hm : X.mg x = some (.ref a)) (hd : (x == ("__debug__" : Str)) = false := by decide) : PD K Z X (.Name x pos) (tC (.ref a)) (dC (.ref a)) := ⟨pe_glob hg hm rfl hd, simC fun _ => rfl⟩
theorem d_bltn {x : Str} {pos : Pos} {n : String} (hg : Gl X x) (hm : X.mg x = none) (hv : bootBuiltins x = some (.type n)) (hn : x ≠ "__name__" := by decide) (hd : (x == ("__debug__" : Str)) = false := by decide) : PD K Z X (.Name x pos) (tC (.ty n)) (dC (.ty n)) := ⟨pe_bltn hg hm hv rfl hn hd, simC fun _ => rfl⟩
def dOp (dr : DR) (da db : DE) : DE := fun δ μ Q => da δ μ fun x δ1 μ1 => db δ1 μ1 fun y δ2 μ2 => dr x y μ2 fun d μ3 => Q d δ2 μ3
theorem simOp {r : R2} {dr : DR} {ta tb : TE} {da db : DE} (hr : SimR K r dr) (ha : SimE K Z ta da) (hb : SimE K Z tb db) : SimE K Z (tOp r ta tb) (dOp dr da db) := fun B hB S μ H σ δ Q QD rl k h => by
  refine ha B hB S μ H σ δ _ _ rl (fun S1 μ1 H1 δ1 x dx e1 r1 h1 q1 => ?_) h
  refine hb B hB S1 μ1 H1 σ δ1 _ _ r1 (fun S2 μ2 H2 δ2 y dy e2 r2 h2 q2 => ?_) q1
  refine hr S2 μ2 H2 x y dx dy _ _ r2.r3 (Rep.mono e2 _ _ h1) h2 (fun S3 μ3 H3 v d g r3 h3 q3 => ?_) q2
  exact k S3 μ3 H3 δ2 v d ((e1.trans e2).trans g.ex) (r2.grow g r3) h3 q3
theorem d_op {op : Operator} {a b : Expr} {pos : Pos} {r : R2} {dr : DR} {ta tb : TE} {da db : DE} (ho : PDOp K X (binaryOp op) r dr) (ha : PD K Z X a ta da) (hb : PD K Z X b tb db) : PD K Z X (.BinOp a op b pos) (tOp r ta tb) (dOp dr da db) :=
  ⟨pe_op ho.p ha.p hb.p, simOp ho.s ha.s hb.s⟩
theorem d_cmp {op : CmpOp} {a b : Expr} {pos : Pos} {r : R2} {dr : DR} {ta tb : TE} {da db : DE} (ho : PDOp K X (compareOp op) r dr) (ha : PD K Z X a ta da) (hb : PD K Z X b tb db) (hm : behindInMarks op b = false := by rfl) : PD K Z X (.Compare a [op] [b] pos) (tOp r ta tb) (dOp dr da db) :=
  ⟨pe_cmpR ho.p ha.p hb.p hm, simOp ho.s ha.s hb.s⟩
def dTest (de : DE) : DT := fun δ μ Q => de δ μ fun d δ1 μ1 => ∃ b, d = .bl b ∧ Q b δ1 μ1
theorem simTest {te : TE} {de : DE} (h : SimE K Z te de) : SimT K Z (tTest te) (dTest de) := fun B hB S μ H σ δ Q QD rl k q => by
  refine h B hB S μ H σ δ _ _ rl (fun S1 μ1 H1 δ1 x dx e1 r1 h1 q1 => ?_) q
  obtain ⟨b, rfl, q1⟩ := q1
  exact ⟨b, h1, k S1 μ1 H1 δ1 b e1 r1 q1⟩
theorem simB {te : TE} {de : DE} (h : SimE K Z te de) : SimT K Z (tB te) (dTest de) := fun B hB S μ H σ δ Q QD rl k q => by
  refine h B hB S μ H σ δ _ _ rl (fun S1 μ1 H1 δ1 x dx e1 r1 h1 q1 => ?_) q
  obtain ⟨b, rfl, q1⟩ := q1
  exact ⟨b, h1, k S1 μ1 H1 δ1 b e1 r1 q1⟩
theorem t_cmp {op : CmpOp} {a b : Expr} {pos : Pos} {r : R2} {dr : DR} {ta tb : TE} {da db : DE} (ho : PDOp K X (compareOp op) r dr) (ha : PD K Z X a ta da) (hb : PD K Z X b tb db) (hm : behindInMarks op b = false := by rfl) : PDT K Z X (.Compare a [op] [b] pos) (tTest (tOp r ta tb)) (dTest (dOp dr da db)) :=
  ⟨pt_cmpR ho.p ha.p hb.p hm, simTest (simOp ho.s ha.s hb.s)⟩
def dChain (r r' : DR) (da db dc : DE) : DE := fun δ μ Q => da δ μ fun x δ1 μ1 => db δ1 μ1 fun y δ2 μ2 => r x y μ2 fun z μ3 => ∃ k, z = .bl k ∧
  (if k = true then dc δ2 μ3 fun w δ4 μ4 => r' y w μ4 fun d μ5 => Q d δ4 μ5 else Q (.bl false) δ2 μ3)
theorem simChain {r r' : R2} {dr dr' : DR} {ta tb tc : TE} {da db dc : DE} (hr : SimR K r dr) (hr' : SimR K r' dr') (ha : SimE K Z ta da) (hb : SimE K Z tb db) (hc : SimE K Z tc dc) : SimE K Z (tChain r r' ta tb tc) (dChain dr dr' da db dc) := fun B hB S μ H σ δ Q QD rl k h => by
  refine ha B hB S μ H σ δ _ _ rl (fun S1 μ1 H1 δ1 x dx e1 r1 h1 q1 => ?_) h
  refine hb B hB S1 μ1 H1 σ δ1 _ _ r1 (fun S2 μ2 H2 δ2 y dy e2 r2 h2 q2 => ?_) q1
  refine hr S2 μ2 H2 x y dx dy _ _ r2.r3 (Rep.mono e2 _ _ h1) h2 (fun S3 μ3 H3 v d g r3 h3 q3 => ?_) q2
  obtain ⟨b, rfl, q3⟩ := q3
  refine ⟨b, h3, ?_⟩
  have r3' := r2.grow g r3
  cases b with
  | false =>
    rw [if_neg Bool.false_ne_true] at q3 ⊢
    exact k S3 μ3 H3 δ2 _ (.bl false) ((e1.trans e2).trans g.ex) r3' rfl q3
  | true =>
    rw [if_pos rfl] at q3 ⊢
    refine hc B hB S3 μ3 H3 σ δ2 _ _ r3' (fun S4 μ4 H4 δ4 w dw e4 r4 h4 q4 => ?_) q3
    refine hr' S4 μ4 H4 y w dy dw _ _ r4.r3 (Rep.mono (g.ex.trans e4) _ _ h2) h4 (fun S5 μ5 H5 v d g5 r5 h5 q5 => ?_) q4
    exact k S5 μ5 H5 δ4 v d ((((e1.trans e2).trans g.ex).trans e4).trans g5.ex) (r4.grow g5 r5) h5 q5
theorem d_chain {op op' : CmpOp} {a b c : Expr} {pos : Pos} {r r' : R2} {dr dr' : DR} {ta tb tc : TE} {da db dc : DE} (ho : PDOp K X (compareOp op) r dr) (ho' : PDOp K X (compareOp op') r' dr') (ha : PD K Z X a ta da) (hb : PD K Z X b tb db) (hc : PD K Z X c tc dc) (hm : lastMarks [op, op'] [b, c] = false := by with_unfolding_all rfl) :
    PD K Z X (.Compare a [op, op'] [b, c] pos) (tChain r r' ta tb tc) (dChain dr dr' da db dc) := ⟨pe_chain ho.p ho'.p ha.p hb.p hc.p hm, simChain ho.s ho'.s ha.s hb.s hc.s⟩
theorem t_chain {op op' : CmpOp} {a b c : Expr} {pos : Pos} {r r' : R2} {dr dr' : DR} {ta tb tc : TE} {da db dc : DE} (ho : PDOp K X (compareOp op) r dr) (ho' : PDOp K X (compareOp op') r' dr') (ha : PD K Z X a ta da) (hb : PD K Z X b tb db) (hc : PD K Z X c tc dc) (hm : lastMarks [op, op'] [b, c] = false := by with_unfolding_all rfl) :
    PDT K Z X (.Compare a [op, op'] [b, c] pos) (tTest (tChain r r' ta tb tc)) (dTest (dChain dr dr' da db dc)) := ⟨pt_chain ho.p ho'.p ha.p hb.p hc.p hm, simTest (simChain ho.s ho'.s ha.s hb.s hc.s)⟩
def dAnd (t u : DT) : DT := fun δ μ Q => t δ μ fun c δ1 μ1 => if c = true then u δ1 μ1 Q else Q false δ1 μ1
def dOr (t u : DT) : DT := fun δ μ Q => t δ μ fun c δ1 μ1 => if c = true then Q true δ1 μ1 else u δ1 μ1 Q
def dNot (t : DT) : DT := fun δ μ Q => t δ μ fun c δ1 μ1 => Q (!c) δ1 μ1
theorem simAnd {t u : TT} {dt du : DT} (h1 : SimT K Z t dt) (h2 : SimT K Z u du) : SimT K Z (tAnd t u) (dAnd dt du) := fun B hB S μ H σ δ Q QD rl k q => by
  refine h1 B hB S μ H σ δ _ _ rl (fun S1 μ1 H1 δ1 b e1 r1 q1 => ?_) q
  cases b with
  | true =>
    rw [if_pos rfl] at q1 ⊢
    exact h2 B hB S1 μ1 H1 σ δ1 _ _ r1 (fun S2 μ2 H2 δ2 b e2 r2 q2 => k S2 μ2 H2 δ2 b (e1.trans e2) r2 q2) q1
  | false =>
    rw [if_neg Bool.false_ne_true] at q1 ⊢
    exact k S1 μ1 H1 δ1 _ e1 r1 q1
theorem simOr {t u : TT} {dt du : DT} (h1 : SimT K Z t dt) (h2 : SimT K Z u du) : SimT K Z (tOr t u) (dOr dt du) := fun B hB S μ H σ δ Q QD rl k q => by
  refine h1 B hB S μ H σ δ _ _ rl (fun S1 μ1 H1 δ1 b e1 r1 q1 => ?_) q
  cases b with
  | true =>
    rw [if_pos rfl] at q1 ⊢
    exact k S1 μ1 H1 δ1 _ e1 r1 q1
  | false =>
    rw [if_neg Bool.false_ne_true] at q1 ⊢
    exact h2 B hB S1 μ1 H1 σ δ1 _ _ r1 (fun S2 μ2 H2 δ2 b e2 r2 q2 => k S2 μ2 H2 δ2 b (e1.trans e2) r2 q2) q1
theorem simNot {t : TT} {dt : DT} (h1 : SimT K Z t dt) : SimT K Z (tNot t) (dNot dt) := fun B hB S μ H σ δ Q QD rl k q =>
  h1 B hB S μ H σ δ _ _ rl (fun S1 μ1 H1 δ1 b e1 r1 q1 => k S1 μ1 H1 δ1 _ e1 r1 q1) q
/-- tests of and, or: the parts as W -/
structure PDW (K : PySem.W.Frag) (Z : Bs) (X : Cx) (e : Expr) (te : TT) (de : DT) : Prop where
  p : PW X e te
  s : SimT K Z te de
theorem t_w {e : Expr} {t : TT} {d : DT} (h : PDW K Z X e t d) : PDT K Z X e t d := ⟨h.p.pt, h.s⟩
theorem w_and1 {a : Expr} {t : TT} {d : DT} {pos} (h : PDT K Z X a t d) : PDW K Z X (.BoolOp .And [a] pos) t d := ⟨pw_and1 h.p, h.s⟩
theorem w_or1 {a : Expr} {t : TT} {d : DT} {pos} (h : PDT K Z X a t d) : PDW K Z X (.BoolOp .Or [a] pos) t d := ⟨pw_or1 h.p, h.s⟩
theorem w_and {a b : Expr} {rest : List Expr} {t u : TT} {d du : DT} {pos} (h : PDT K Z X a t d) (h2 : PDW K Z X (.BoolOp .And (b :: rest) pos) u du) : PDW K Z X (.BoolOp .And (a :: b :: rest) pos) (tAnd t u) (dAnd d du) := ⟨pw_and h.p h2.p, simAnd h.s h2.s⟩
theorem w_or {a b : Expr} {rest : List Expr} {t u : TT} {d du : DT} {pos} (h : PDT K Z X a t d) (h2 : PDW K Z X (.BoolOp .Or (b :: rest) pos) u du) : PDW K Z X (.BoolOp .Or (a :: b :: rest) pos) (tOr t u) (dOr d du) := ⟨pw_or h.p h2.p, simOr h.s h2.s⟩
theorem t_not {a : Expr} {t : TT} {d : DT} {pos} (h : PDT K Z X a t d) : PDT K Z X (.UnaryOp .Not a pos) (tNot t) (dNot d) := ⟨pt_not h.p, simNot h.s⟩
def dAndV (da db : DE) : DE := fun δ μ Q => da δ μ fun x δ1 μ1 => ∃ c, x = .bl c ∧ if c = true then db δ1 μ1 Q else Q (.bl false) δ1 μ1
def dOrV (da db : DE) : DE := fun δ μ Q => da δ μ fun x δ1 μ1 => ∃ c, x = .bl c ∧ if c = true then Q (.bl true) δ1 μ1 else db δ1 μ1 Q
def dNotV (da : DE) : DE := fun δ μ Q => da δ μ fun x δ1 μ1 => ∃ c, x = .bl c ∧ Q (.bl (!c)) δ1 μ1
theorem simAndV {t u : TE} {dt du : DE} (h1 : SimE K Z t dt) (h2 : SimE K Z u du) : SimE K Z (tAndV t u) (dAndV dt du) := fun B hB S μ H σ δ Q QD rl k q => by
  refine h1 B hB S μ H σ δ _ _ rl (fun S1 μ1 H1 δ1 x dx e1 r1 hx q1 => ?_) q
  obtain ⟨b, rfl, q1⟩ := q1
  refine ⟨b, hx, ?_⟩
  cases b with
  | true =>
    rw [if_pos rfl] at q1 ⊢
    exact h2 B hB S1 μ1 H1 σ δ1 _ _ r1 (fun S2 μ2 H2 δ2 b d e2 r2 hd q2 => k S2 μ2 H2 δ2 b d (e1.trans e2) r2 hd q2) q1
  | false =>
    rw [if_neg Bool.false_ne_true] at q1 ⊢
    exact k S1 μ1 H1 δ1 _ (.bl false) e1 r1 rfl q1
theorem simOrV {t u : TE} {dt du : DE} (h1 : SimE K Z t dt) (h2 : SimE K Z u du) : SimE K Z (tOrV t u) (dOrV dt du) := fun B hB S μ H σ δ Q QD rl k q => by
  refine h1 B hB S μ H σ δ _ _ rl (fun S1 μ1 H1 δ1 x dx e1 r1 hx q1 => ?_) q
  obtain ⟨b, rfl, q1⟩ := q1
  refine ⟨b, hx, ?_⟩
  cases b with
  | true =>
    rw [if_pos rfl] at q1 ⊢
    exact k S1 μ1 H1 δ1 _ (.bl true) e1 r1 rfl q1
  | false =>
    rw [if_neg Bool.false_ne_true] at q1 ⊢
    exact h2 B hB S1 μ1 H1 σ δ1 _ _ r1 (fun S2 μ2 H2 δ2 b d e2 r2 hd q2 => k S2 μ2 H2 δ2 b d (e1.trans e2) r2 hd q2) q1
theorem simNotV {t : TE} {dt : DE} (h1 : SimE K Z t dt) : SimE K Z (tNotV t) (dNotV dt) := fun B hB S μ H σ δ Q QD rl k q => by
  refine h1 B hB S μ H σ δ _ _ rl (fun S1 μ1 H1 δ1 x dx e1 r1 hx q1 => ?_) q
  obtain ⟨b, rfl, q1⟩ := q1
  exact ⟨b, hx, k S1 μ1 H1 δ1 _ (.bl (!b)) e1 r1 rfl q1⟩
theorem d_one {a : Expr} {op} {t : TE} {d : DE} {pos} (h : PD K Z X a t d) : PD K Z X (.BoolOp op [a] pos) t d := ⟨pe_one h.p, h.s⟩
theorem d_and {a b : Expr} {rest : List Expr} {t u : TE} {d du : DE} {pos} (h : PD K Z X a t d) (h2 : PD K Z X (.BoolOp .And (b :: rest) pos) u du) : PD K Z X (.BoolOp .And (a :: b :: rest) pos) (tAndV t u) (dAndV d du) := ⟨pe_and h.p h2.p, simAndV h.s h2.s⟩
theorem d_or {a b : Expr} {rest : List Expr} {t u : TE} {d du : DE} {pos} (h : PD K Z X a t d) (h2 : PD K Z X (.BoolOp .Or (b :: rest) pos) u du) : PD K Z X (.BoolOp .Or (a :: b :: rest) pos) (tOrV t u) (dOrV d du) := ⟨pe_or h.p h2.p, simOrV h.s h2.s⟩
theorem d_not {a : Expr} {t : TE} {d : DE} {pos} (h : PD K Z X a t d) : PD K Z X (.UnaryOp .Not a pos) (tNotV t) (dNotV d) := ⟨pe_not h.p, simNotV h.s⟩
def dIf (t : DT) (da db : DE) : DE := fun δ μ Q => t δ μ fun c δ1 μ1 => if c = true then da δ1 μ1 Q else db δ1 μ1 Q
theorem simIf {t : TT} {ta tb : TE} {dt : DT} {da db : DE} (h1 : SimT K Z t dt) (ha : SimE K Z ta da) (hb : SimE K Z tb db) : SimE K Z (tIf t ta tb) (dIf dt da db) := fun B hB S μ H σ δ Q QD rl k q => by
  refine h1 B hB S μ H σ δ _ _ rl (fun S1 μ1 H1 δ1 b e1 r1 q1 => ?_) q
  cases b with
  | true =>
    rw [if_pos rfl] at q1 ⊢
    exact ha B hB S1 μ1 H1 σ δ1 _ _ r1 (fun S2 μ2 H2 δ2 b d e2 r2 hd q2 => k S2 μ2 H2 δ2 b d (e1.trans e2) r2 hd q2) q1
  | false =>
    rw [if_neg Bool.false_ne_true] at q1 ⊢
    exact hb B hB S1 μ1 H1 σ δ1 _ _ r1 (fun S2 μ2 H2 δ2 b d e2 r2 hd q2 => k S2 μ2 H2 δ2 b d (e1.trans e2) r2 hd q2) q1
theorem d_ifExp {c a b : Expr} {pos} {t : TT} {ta tb : TE} {dt : DT} {da db : DE} (hc : PDT K Z X c t dt) (ha : PD K Z X a ta da) (hb : PD K Z X b tb db) : PD K Z X (.IfExp c a b pos) (tIf t ta tb) (dIf dt da db) := ⟨pe_ifExp hc.p ha.p hb.p, simIf hc.s ha.s hb.s⟩
/-- a bool's value as a test -/
theorem t_val {e : Expr} {te : TE} {de : DE} (hp : PT X e (tB te)) (h : PD K Z X e te de) : PDT K Z X e (tB te) (dTest de) := ⟨hp, simB h.s⟩
/-! ### arguments, displays -/
def dNil : DA := fun δ μ Q => Q [] δ μ
def dCons (da : DE) (dr : DA) : DA := fun δ μ Q => da δ μ fun x δ1 μ1 => dr δ1 μ1 fun xs δ2 μ2 => Q (x :: xs) δ2 μ2
theorem a_nil : PDA K Z X [] tNil dNil := ⟨pa_nil, fun B hB S μ H σ δ Q QD rl k q => k S μ H δ _ [] (Ex.refl S) rl rfl q⟩
theorem a_cons {e : Expr} {es : List Expr} {te : TE} {ta : TA} {de : DE} {da : DA} (h : PD K Z X e te de) (hr : PDA K Z X es ta da) (hs : starEach (e :: es) X.env = (false, eval e X.env) :: starEach es X.env := by rfl) : PDA K Z X (e :: es) (tCons te ta) (dCons de da) :=
  ⟨pa_cons h.p hr.p hs, fun B hB S μ H σ δ Q QD rl k q => by
    refine h.s B hB S μ H σ δ _ _ rl (fun S1 μ1 H1 δ1 x dx e1 r1 hx q1 => ?_) q
    refine hr.s B hB S1 μ1 H1 σ δ1 _ _ r1 (fun S2 μ2 H2 δ2 xs ds e2 r2 h2 q2 => ?_) q1
    exact k S2 μ2 H2 δ2 _ (dx :: ds) (e1.trans e2) r2 ⟨x, xs, rfl, Rep.mono e2 _ _ hx, h2⟩ q2⟩
def dTup (da : DA) : DE := fun δ μ Q => da δ μ fun xs δ1 μ1 => xs.length ≤ sizeLine ∧ Q (.tup xs) δ1 μ1
def dLst (da : DA) : DE := fun δ μ Q => da δ μ fun xs δ1 μ1 => xs.length ≤ sizeLine ∧ Q (.lst xs) δ1 μ1
/-- a list that is a cell of its own -/
def dLstM (da : DA) : DE := fun δ μ Q => da δ μ fun xs δ1 μ1 => xs.length ≤ sizeLine ∧ ∀ p, μ1 p = none → Q (.ref p) δ1 (updM μ1 p (.lst xs))
theorem simTup {ta : TA} {da : DA} (h : SimA K Z ta da) : SimE K Z (tTup ta) (dTup da) := fun B hB S μ H σ δ Q QD rl k q => by
  refine h B hB S μ H σ δ _ _ rl (fun S1 μ1 H1 δ1 xs ds e1 r1 hx q1 => ?_) q
  refine ⟨by rw [RepL.length hx]; exact q1.1, fun p hp => ?_⟩
  obtain ⟨r3, g⟩ := r1.r3.alloc (o := .tup xs) hp
  exact k _ μ1 _ δ1 _ (.tup ds) (e1.trans g.ex) (r1.grow g r3) ⟨p, xs, rfl, upd_same, RepL.mono g.ex _ _ hx⟩ q1.2
theorem simLst {ta : TA} {da : DA} (h : SimA K Z ta da) : SimE K Z (tLst ta) (dLst da) := fun B hB S μ H σ δ Q QD rl k q => by
  refine h B hB S μ H σ δ _ _ rl (fun S1 μ1 H1 δ1 xs ds e1 r1 hx q1 => ?_) q
  refine ⟨by rw [RepL.length hx]; exact q1.1, fun p hp => ?_⟩
  obtain ⟨r3, g⟩ := r1.r3.alloc (o := .lst xs) hp
  exact k _ μ1 _ δ1 _ (.lst ds) (e1.trans g.ex) (r1.grow g r3) ⟨p, xs, rfl, upd_same, RepL.mono g.ex _ _ hx⟩ q1.2
theorem simLstM {ta : TA} {da : DA} (h : SimA K Z ta da) : SimE K Z (tLst ta) (dLstM da) := fun B hB S μ H σ δ Q QD rl k q => by
  refine h B hB S μ H σ δ _ _ rl (fun S1 μ1 H1 δ1 xs ds e1 r1 hx q1 => ?_) q
  refine ⟨by rw [RepL.length hx]; exact q1.1, fun p hp => ?_⟩
  obtain ⟨r3, g⟩ := r1.r3.cell (o := .lst xs) (m := .lst ds) hp ⟨xs, rfl, hx⟩
  exact k _ _ _ δ1 _ (.ref p) e1 (r1.grow g r3) rfl (q1.2 p (r1.r3.free hp).2)
theorem d_tup {es : List Expr} {x1} {pos} {ta : TA} {da : DA} (h : PDA K Z X es ta da) : PD K Z X (.Tuple es x1 pos) (tTup ta) (dTup da) := ⟨pe_tup h.p, simTup h.s⟩
theorem d_lst {es : List Expr} {pos} {ta : TA} {da : DA} (h : PDA K Z X es ta da) : PD K Z X (.List es pos) (tLst ta) (dLst da) := ⟨pe_lst h.p, simLst h.s⟩
theorem d_lstM {es : List Expr} {pos} {ta : TA} {da : DA} (h : PDA K Z X es ta da) : PD K Z X (.List es pos) (tLst ta) (dLstM da) := ⟨pe_lst h.p, simLstM h.s⟩
/-! ### calls of values -/
def dCB (dc : DC) (da : DA) : DE := fun δ μ Q => da δ μ fun ds δ1 μ1 => dc ds μ1 fun d μ2 => Q d δ1 μ2
theorem simCB {r : List V → Hp → VK → Prop} {dc : DC} {ta : TA} {da : DA} (hr : SimC K r dc) (ha : SimA K Z ta da) : SimE K Z (tCB r ta) (dCB dc da) := fun B hB S μ H σ δ Q QD rl k q => by
  refine ha B hB S μ H σ δ _ _ rl (fun S1 μ1 H1 δ1 xs ds e1 r1 hx q1 => ?_) q
  refine hr S1 μ1 H1 xs ds _ _ r1.r3 hx (fun S2 μ2 H2 v d g r2 hv q2 => ?_) q1
  exact k S2 μ2 H2 δ1 v d (e1.trans g.ex) (r1.grow g r2) hv q2
theorem d_callB {x : Str} {p pos : Pos} {id : String} {e : Expr} {es : List Expr} {r : List V → Hp → VK → Prop} {dc : DC} {ta : TA} {da : DA} (hc : PDC K X (.builtin id) r dc) (hg : Gl X x) (hm : X.mg x = none) (hv : bootBuiltins x = some (.builtin id)) (ha : PDA K Z X (e :: es) ta da)
    (hn : x ≠ "__name__" := by decide) (hdb : (x == ("__debug__" : Str)) = false := by decide) (hs : starEach (e :: es) X.env = (false, eval e X.env) :: starEach es X.env := by rfl) (hpl : (backTo pos (starEach es X.env)).any (·.1) = false := by rfl) : PD K Z X (.Call (.Name x p) (e :: es) [] pos) (tCB r ta) (dCB dc da) := ⟨pe_callB hc.p hg hm hv ha.p hn hdb hs hpl, simCB hc.s ha.s⟩
theorem d_callTy {x : Str} {p pos : Pos} {T : String} {e : Expr} {es : List Expr} {r : List V → Hp → VK → Prop} {dc : DC} {ta : TA} {da : DA} (hc : PDC K X (.type T) r dc) (hg : Gl X x) (hm : X.mg x = none) (hv : bootBuiltins x = some (.type T)) (ha : PDA K Z X (e :: es) ta da)
    (hn : x ≠ "__name__" := by decide) (hdb : (x == ("__debug__" : Str)) = false := by decide) (hs : starEach (e :: es) X.env = (false, eval e X.env) :: starEach es X.env := by rfl) (hpl : (backTo pos (starEach es X.env)).any (·.1) = false := by rfl) : PD K Z X (.Call (.Name x p) (e :: es) [] pos) (tCB r ta) (dCB dc da) := ⟨pe_callTy hc.p hg hm hv ha.p hn hdb hs hpl, simCB hc.s ha.s⟩
end Dl

namespace Dl
open PySem L2
variable {X : Cx} {K : PySem.W.Frag} {Z : Bs}
/-! ### operators -/
theorem simI0 {g : Int → Int → V} {g' : Int → Int → D} (h : ∀ S i j, Rep K S (g' i j) (g i j)) : SimR K (rI0 g) (fun x y μ Q => ∃ i j, x = .int i ∧ y = .int j ∧ Q (g' i j) μ) := fun S μ H x y dx dy Q QD r hx hy k q => by
  obtain ⟨i, j, rfl, rfl, q⟩ := q
  exact ⟨i, j, hx, hy, k S μ H _ _ Grow.refl r (h S i j) q⟩
theorem simIC {C : Int → Int → Prop} {g : Int → Int → V} {g' : Int → Int → D} (h : ∀ S i j, Rep K S (g' i j) (g i j)) : SimR K (rI C g) (fun x y μ Q => ∃ i j, x = .int i ∧ y = .int j ∧ C i j ∧ Q (g' i j) μ) := fun S μ H x y dx dy Q QD r hx hy k q => by
  obtain ⟨i, j, rfl, rfl, c, q⟩ := q
  exact ⟨i, j, hx, hy, c, k S μ H _ _ Grow.refl r (h S i j) q⟩
theorem simOrR {r r' : R2} {d d' : DR} (h : SimR K r d) (h' : SimR K r' d') : SimR K (fun x y H Q => r x y H Q ∨ r' x y H Q) (fun x y μ Q => d x y μ Q ∨ d' x y μ Q) := fun S μ H x y dx dy Q QD r hx hy k q => by
  rcases q with q | q
  · exact .inl (h S μ H x y dx dy Q QD r hx hy k q)
  · exact .inr (h' S μ H x y dx dy Q QD r hx hy k q)
theorem simOrC {r r' : List V → Hp → VK → Prop} {d d' : DC} (h : SimC K r d) (h' : SimC K r' d') : SimC K (fun x H Q => r x H Q ∨ r' x H Q) (fun x μ Q => d x μ Q ∨ d' x μ Q) := fun S μ H x dx Q QD r hx k q => by
  rcases q with q | q
  · exact .inl (h S μ H x dx Q QD r hx k q)
  · exact .inr (h' S μ H x dx Q QD r hx k q)
theorem PDOp.or {f : Value → Value → Sem Value} {r r' : R2} {d d' : DR} (h : PDOp K X f r d) (h' : PDOp K X f r' d') : PDOp K X f (fun x y H Q => r x y H Q ∨ r' x y H Q) (fun x y μ Q => d x y μ Q ∨ d' x y μ Q) := ⟨h.p.or h'.p, simOrR h.s h'.s⟩
theorem PDC.or {f : Value} {r r' : List V → Hp → VK → Prop} {d d' : DC} (h : PDC K X f r d) (h' : PDC K X f r' d') : PDC K X f (fun x H Q => r x H Q ∨ r' x H Q) (fun x μ Q => d x μ Q ∨ d' x μ Q) := ⟨h.p.or h'.p, simOrC h.s h'.s⟩
abbrev rdI (g : Int → Int → D) : DR := fun x y μ Q => ∃ i j, x = .int i ∧ y = .int j ∧ Q (g i j) μ
abbrev rdC (C : Int → Int → Prop) (g : Int → Int → D) : DR := fun x y μ Q => ∃ i j, x = .int i ∧ y = .int j ∧ C i j ∧ Q (g i j) μ
def rdSub : DR := rdI fun i j => .int (i - j)
def rdLt : DR := rdI fun i j => .bl (decide (i < j))
def rdLe : DR := rdI fun i j => .bl (decide (i ≤ j))
def rdGt : DR := rdI fun i j => .bl (decide (j < i))
def rdGe : DR := rdI fun i j => .bl (decide (j ≤ i))
def rdMod : DR := rdC (fun _ j => 0 < j) fun i j => .int (i % j)
def rdDiv : DR := rdC CDivW fun i j => .int (i / j)
def rdPow : DR := rdC CPow fun i j => .int (i ^ j.toNat)
theorem o_sub : PDOp K X (binaryOp .Sub) (rI0 fun i j => .int (i - j)) rdSub := ⟨op_sub, simI0 fun _ _ _ => rfl⟩
theorem o_lt : PDOp K X (compareOp .Lt) (rI0 fun i j => .bl (decide (i < j))) rdLt := ⟨op_lt, simI0 fun _ _ _ => rfl⟩
theorem o_le : PDOp K X (compareOp .LtE) (rI0 fun i j => .bl (decide (i ≤ j))) rdLe := ⟨op_le, simI0 fun _ _ _ => rfl⟩
theorem o_gt : PDOp K X (compareOp .Gt) (rI0 fun i j => .bl (decide (j < i))) rdGt := ⟨op_gt, simI0 fun _ _ _ => rfl⟩
theorem o_ge : PDOp K X (compareOp .GtE) (rI0 fun i j => .bl (decide (j ≤ i))) rdGe := ⟨op_ge, simI0 fun _ _ _ => rfl⟩
theorem o_mod : PDOp K X (binaryOp .Mod) (rI (fun _ j => 0 < j) fun i j => .int (i % j)) rdMod := ⟨op_mod, simIC fun _ _ _ => rfl⟩
theorem o_div : PDOp K X (binaryOp .FloorDiv) (rI CDivW fun i j => .int (i / j)) rdDiv := ⟨op_fdivW, simIC fun _ _ _ => rfl⟩
theorem o_pow : PDOp K X (binaryOp .Pow) (rI CPow fun i j => .int (i ^ j.toNat)) rdPow := ⟨op_pow, simIC fun _ _ _ => rfl⟩
/-- + of ints, texts, lists, tuples -/
theorem sim_addS : SimR K (fun x y H Q => ∃ i j, x = .str i ∧ y = .str j ∧ i.length + j.length ≤ sizeLine ∧ Q (.str (i ++ j)) H) (fun x y μ Q => ∃ i j, x = .str i ∧ y = .str j ∧ i.length + j.length ≤ sizeLine ∧ Q (.str (i ++ j)) μ) := fun S μ H x y dx dy Q QD r hx hy k q => by
  obtain ⟨i, j, rfl, rfl, c, q⟩ := q
  exact ⟨i, j, hx, hy, c, k S μ H _ (.str (i ++ j)) Grow.refl r rfl q⟩
theorem sim_catL : SimR K rCat (fun x y μ Q => ∃ l m, x = .lst l ∧ y = .lst m ∧ l.length + m.length ≤ sizeLine ∧ Q (.lst (l ++ m)) μ) := fun S μ H x y dx dy Q QD r hx hy k q => by
  obtain ⟨l, m, rfl, rfl, c, q⟩ := q
  obtain ⟨a, vs, rfl, h1, h2⟩ := hx
  obtain ⟨b, ws, rfl, h3, h4⟩ := hy
  refine ⟨a, b, vs, ws, rfl, rfl, exr_lst r.ex h1, exr_lst r.ex h3, by rw [RepL.length h2, RepL.length h4]; exact c, fun p hp => ?_⟩
  obtain ⟨r3, g⟩ := r.alloc (o := .lst (vs ++ ws)) hp
  exact k _ μ _ _ (.lst (l ++ m)) g r3 ⟨p, _, rfl, upd_same, RepL.mono g.ex _ _ (RepL.append h2 h4)⟩ q
theorem sim_catT : SimR K (rCatA K) (fun x y μ Q => ∃ l m, x = .tup l ∧ y = .tup m ∧ l.length + m.length ≤ sizeLine ∧ Q (.tup (l ++ m)) μ) := fun S μ H x y dx dy Q QD r hx hy k q => by
  obtain ⟨l, m, rfl, rfl, c, q⟩ := q
  obtain ⟨a, vs, rfl, h1, h2⟩ := hx
  obtain ⟨b, ws, rfl, h3, h4⟩ := hy
  refine ⟨a, b, vs, ws, rfl, rfl, exr_t r.ex (SqT.of h1), exr_t r.ex (SqT.of h3), by rw [RepL.length h2, RepL.length h4]; exact c, fun e => ?_, fun _ e => ?_, fun _ _ p hp => ?_⟩
  · have e1 := RepL.length h2
    rw [e] at e1
    have e2 : l = [] := List.length_eq_zero_iff.mp e1.symm
    subst e2
    exact k S μ H _ (.tup ([] ++ m)) Grow.refl r ⟨b, ws, rfl, h3, h4⟩ q
  · have e1 := RepL.length h4
    rw [e] at e1
    have e2 : m = [] := List.length_eq_zero_iff.mp e1.symm
    subst e2
    exact k S μ H _ (.tup (l ++ [])) Grow.refl r ⟨a, vs, rfl, h1, by rw [List.append_nil]; exact h2⟩ q
  · obtain ⟨r3, g⟩ := r.alloc (o := .tup (vs ++ ws)) hp
    exact k _ μ _ _ (.tup (l ++ m)) g r3 ⟨p, _, rfl, upd_same, RepL.mono g.ex _ _ (RepL.append h2 h4)⟩ q
def rdAdd : DR := fun x y μ Q => (∃ i j, x = .int i ∧ y = .int j ∧ Q (.int (i + j)) μ) ∨ (∃ i j, x = .str i ∧ y = .str j ∧ i.length + j.length ≤ sizeLine ∧ Q (.str (i ++ j)) μ) ∨
  (∃ l m, x = .lst l ∧ y = .lst m ∧ l.length + m.length ≤ sizeLine ∧ Q (.lst (l ++ m)) μ) ∨ (∃ l m, x = .tup l ∧ y = .tup m ∧ l.length + m.length ≤ sizeLine ∧ Q (.tup (l ++ m)) μ)
def rAddA (K : PySem.W.Frag) : R2 := fun x y H Q => rI0 (fun i j => .int (i + j)) x y H Q ∨ ((∃ i j, x = .str i ∧ y = .str j ∧ i.length + j.length ≤ sizeLine ∧ Q (.str (i ++ j)) H) ∨ (rCat x y H Q ∨ rCatA K x y H Q))
theorem o_add (hk : X.K = K := by rfl) : PDOp K X (binaryOp .Add) (rAddA K) rdAdd := by
  subst hk
  exact ⟨op_add.or (op_add_str.or (op_cat.or op_catA)), simOrR (simI0 fun _ _ _ => rfl) (simOrR sim_addS (simOrR sim_catL sim_catT))⟩
/-- * of ints; a list so often -/
theorem sim_rep : SimR K rRep (fun x y μ Q => ∃ l n, x = .lst l ∧ y = .int n ∧ 0 ≤ n ∧ n ≤ 10000 ∧ l.length * n.toNat ≤ sizeLine ∧ Q (.lst (List.replicate n.toNat l).flatten) μ) := fun S μ H x y dx dy Q QD r hx hy k q => by
  obtain ⟨l, n, rfl, rfl, h0, h1, c, q⟩ := q
  obtain ⟨a, vs, rfl, h2, h3⟩ := hx
  have hy : y = .int n := hy
  subst hy
  refine ⟨a, n, vs, rfl, rfl, exr_lst r.ex h2, by omega, by omega, by rw [RepL.length h3]; exact c, fun p hp => ?_⟩
  obtain ⟨r3, g⟩ := r.alloc (o := .lst (List.replicate n.toNat vs).flatten) hp
  refine k _ μ _ _ (.lst (List.replicate n.toNat l).flatten) g r3 ⟨p, _, rfl, upd_same, RepL.mono g.ex _ _ ?_⟩ q
  generalize n.toNat = m
  induction m with
  | zero => rfl
  | succ m ih => rw [List.replicate_succ, List.replicate_succ, List.flatten_cons, List.flatten_cons]; exact RepL.append h3 ih
def rdMul : DR := fun x y μ Q => (∃ i j, x = .int i ∧ y = .int j ∧ CMulW i j ∧ Q (.int (i * j)) μ) ∨ (∃ l n, x = .lst l ∧ y = .int n ∧ 0 ≤ n ∧ n ≤ 10000 ∧ l.length * n.toNat ≤ sizeLine ∧ Q (.lst (List.replicate n.toNat l).flatten) μ)
def rMulA : R2 := fun x y H Q => rI CMulW (fun i j => .int (i * j)) x y H Q ∨ rRep x y H Q
theorem o_mul : PDOp K X (binaryOp .Mult) rMulA rdMul := ⟨op_mulW.or op_rep, simOrR (simIC fun _ _ _ => rfl) sim_rep⟩
/-- one sign in a text -/
def rdInS : DR := fun x y μ Q => ∃ (c : Nat) (z : Str), x = .str ⟨#[c]⟩ ∧ y = .str z ∧ Q (.bl (decide (c ∈ z.cps.toList))) μ
def rdNotInS : DR := fun x y μ Q => ∃ (c : Nat) (z : Str), x = .str ⟨#[c]⟩ ∧ y = .str z ∧ Q (.bl (!decide (c ∈ z.cps.toList))) μ
theorem o_inS : PDOp K X (compareOp .In) rInS rdInS := ⟨op_in_sign, fun S μ H x y dx dy Q QD r hx hy k q => by
  obtain ⟨i, j, rfl, rfl, q⟩ := q
  exact ⟨i, j, hx, hy, k S μ H _ (.bl (decide (i ∈ j.cps.toList))) Grow.refl r rfl q⟩⟩
theorem o_notInS : PDOp K X (compareOp .NotIn) rNotInS rdNotInS := ⟨op_notIn_sign, fun S μ H x y dx dy Q QD r hx hy k q => by
  obtain ⟨i, j, rfl, rfl, q⟩ := q
  exact ⟨i, j, hx, hy, k S μ H _ (.bl (!decide (i ∈ j.cps.toList))) Grow.refl r rfl q⟩⟩
/-- is None -/
def isNon : D → Bool
  | .non => true
  | _ => false
theorem isNon_eq {S : Hp} {d : D} {v : V} (h : Rep K S d v) : decide (v = .non) = isNon d := by
  cases d with
  | non => have h : v = .non := h; subst h; rfl
  | bl b => have h : v = .bl b := h; subst h; rfl
  | int b => have h : v = .int b := h; subst h; rfl
  | str b => have h : v = .str b := h; subst h; rfl
  | ref b => have h : v = .ref b := h; subst h; rfl
  | ty b => have h : v = .ty b := h; subst h; rfl
  | tup l => obtain ⟨a, vs, rfl, _⟩ := h; rfl
  | lst l => obtain ⟨a, vs, rfl, _⟩ := h; rfl
  | scr l => obtain ⟨a, vs, rfl, _⟩ := h; rfl
  | dct l => obtain ⟨a, vs, rfl, _⟩ := h; rfl
  | dcT l => obtain ⟨a, vs, rfl, _⟩ := h; rfl
  | obj C l => obtain ⟨a, dx, vs, rfl, _⟩ := h; rfl
  | exc C l b =>
    cases b with
    | false => obtain ⟨a, rfl, _⟩ := h; rfl
    | true => obtain ⟨a, x, vs, rfl, _⟩ := h; rfl
  | drw ns => obtain ⟨a, sa, rfl, _⟩ := h; rfl
def rdIsN : DR := fun x y μ Q => y = .non ∧ Q (.bl (isNon x)) μ
def rdNotN : DR := fun x y μ Q => y = .non ∧ Q (.bl (!isNon x)) μ
theorem o_isN : PDOp K X (compareOp .Is) rIsN rdIsN := ⟨op_isN, fun S μ H x y dx dy Q QD r hx hy k q => by
  obtain ⟨rfl, q⟩ := q
  exact ⟨hy, k S μ H _ (.bl (isNon dx)) Grow.refl r (by rw [isNon_eq hx]; rfl) q⟩⟩
theorem o_notN : PDOp K X (compareOp .IsNot) rNotN rdNotN := ⟨op_notN, fun S μ H x y dx dy Q QD r hx hy k q => by
  obtain ⟨rfl, q⟩ := q
  exact ⟨hy, k S μ H _ (.bl (!isNon dx)) Grow.refl r (by rw [isNon_eq hx]; rfl) q⟩⟩
/-! ### == of data -/
mutual
def pd : D → Option PyData
  | .non => some .none
  | .bl b => some (.bool b)
  | .int i => some (.int i)
  | .str x => some (.str x)
  | .tup l => (pds l).map .tuple
  | .lst l => (pds l).map .list
  | .scr l => (pds l).map .list
  | _ => none
def pds : List D → Option (List PyData)
  | [] => some []
  | d :: ds => (pd d).bind fun x => (pds ds).map (x :: ·)
end
mutual
theorem dp_of {S : Hp} {H : Hp} (e : ExR S H) : ∀ (d : D) (v : V) (p : PyData), Rep K S d v → pd d = some p → Dp K H v p
  | .non, v, p, h, q => by have h : v = _ := h; have q : some _ = some p := q; cases q; subst h; exact .non
  | .bl b, v, p, h, q => by have h : v = _ := h; have q : some _ = some p := q; cases q; subst h; exact .bl b
  | .int b, v, p, h, q => by have h : v = _ := h; have q : some _ = some p := q; cases q; subst h; exact .int b
  | .str b, v, p, h, q => by have h : v = _ := h; have q : some _ = some p := q; cases q; subst h; exact .str b
  | .tup l, v, p, h, q => by
    obtain ⟨a, vs, rfl, h1, h2⟩ := h
    have q : (pds l).map PyData.tuple = some p := q
    cases e1 : pds l with
    | none => rw [e1] at q; cases q
    | some ps => rw [e1] at q; cases q; exact .tup (exr_t e (SqT.of h1)) (dps_of e l vs ps h2 e1)
  | .lst l, v, p, h, q => by
    obtain ⟨a, vs, rfl, h1, h2⟩ := h
    have q : (pds l).map PyData.list = some p := q
    cases e1 : pds l with
    | none => rw [e1] at q; cases q
    | some ps => rw [e1] at q; cases q; exact .lst (SqL.of (exr_lst e h1)) (dps_of e l vs ps h2 e1)
  | .scr l, v, p, h, q => by
    obtain ⟨a, vs, rfl, h1, h2⟩ := h
    have q : (pds l).map PyData.list = some p := q
    cases e1 : pds l with
    | none => rw [e1] at q; cases q
    | some ps => rw [e1] at q; cases q; exact .lst (exr_l e h1) (dps_of e l vs ps h2 e1)
  | .ref _, _, _, _, q => nomatch q
  | .ty _, _, _, _, q => nomatch q
  | .dct _, _, _, _, q => nomatch q
  | .dcT _, _, _, _, q => nomatch q
  | .obj _ _, _, _, _, q => nomatch q
  | .exc _ _ _, _, _, _, q => nomatch q
  | .drw _, _, _, _, q => nomatch q
theorem dps_of {S : Hp} {H : Hp} (e : ExR S H) : ∀ (d : List D) (v : List V) (p : List PyData), RepL K S d v → pds d = some p → DpAll K H v p
  | [], v, p, h, q => by have h : v = [] := h; have q : some [] = some p := q; cases q; subst h; exact .nil
  | d :: ds, v, p, h, q => by
    obtain ⟨x, r, rfl, h1, h2⟩ := h
    have q : (pd d).bind (fun x => (pds ds).map (x :: ·)) = some p := q
    cases e1 : pd d with
    | none => rw [e1] at q; cases q
    | some y =>
      rw [e1] at q
      cases e2 : pds ds with
      | none => rw [e2] at q; cases q
      | some ys =>
        rw [e2] at q
        have q : some (y :: ys) = some p := q
        cases q
        exact .cons (dp_of e d x y h1 e1) (dps_of e ds r ys h2 e2)
end
def eqD (x y : D) : Bool := match pd x, pd y with
  | some p, some q => PyData.eqv p q
  | _, _ => false
def shD (x : D) : Bool := match pd x with
  | some p => SeqAt.shaped p
  | _ => false
/-- a list of the memory is read as it is -/
def drf (μ : Mem) : D → D
  | .ref p => match μ p with
    | some (.lst l) => .lst l
    | _ => .ref p
  | d => d
theorem drf_sh {μ : Mem} {x : D} (h : shD x = true) : drf μ x = x := by
  cases x with
  | ref p => cases h
  | _ => rfl
theorem drf_ref {μ : Mem} {p : Addr} {l : List D} (h : μ p = some (.lst l)) : drf μ (.ref p) = .lst l := by unfold drf; dsimp only; rw [h]
theorem dp_drf {S : Hp} {μ : Mem} {H : Hp} (r : R3 K S μ H) {d : D} {v : V} {p : PyData} (hv : Rep K S d v) (e : pd (drf μ d) = some p) : Dp K H v p := by
  cases d with
  | ref a =>
    unfold drf at e
    dsimp only at e
    split at e
    · rename_i l hm
      have hv : v = .ref a := hv
      subst hv
      obtain ⟨_, o, h1, vs, rfl, h2⟩ := r.mu a _ hm
      have e : (pds l).map PyData.list = some p := e
      cases e1 : pds l with
      | none => rw [e1] at e; cases e
      | some ps => rw [e1] at e; cases e; exact .lst (SqL.of h1) (dps_of r.ex l vs ps h2 e1)
    · exact nomatch (show (none : Option PyData) = some p from e)
  | _ => exact dp_of r.ex _ _ _ hv e
def rdEq : DR := fun x y μ Q => (∃ i j, x = .str i ∧ y = .str j ∧ Q (.bl (decide (i = j))) μ) ∨ (shD (drf μ x) = true ∧ shD (drf μ y) = true ∧ Q (.bl (eqD (drf μ x) (drf μ y))) μ)
def rdNe : DR := fun x y μ Q => (∃ i j, x = .str i ∧ y = .str j ∧ Q (.bl (!decide (i = j))) μ) ∨ (shD (drf μ x) = true ∧ shD (drf μ y) = true ∧ Q (.bl (!eqD (drf μ x) (drf μ y))) μ)
def rEqA (K : PySem.W.Frag) : R2 := fun x y H Q => rEq x y H Q ∨ rEqD K x y H Q
def rNeA (K : PySem.W.Frag) : R2 := fun x y H Q => rNe x y H Q ∨ rNeD K x y H Q
theorem dec_str (i j : Str) : decide (V.str i = V.str j) = decide (i = j) := by
  by_cases h : i = j
  · subst h; simp
  · simp [h]
theorem shD_some {x : D} (h : shD x = true) : ∃ p, pd x = some p ∧ SeqAt.shaped p = true := by
  unfold shD at h
  cases e : pd x with
  | none => rw [e] at h; cases h
  | some p => rw [e] at h; exact ⟨p, rfl, h⟩
theorem o_eq (hu : X.A.units + 64 < cLine) (hk : X.K = K := by rfl) : PDOp K X (compareOp .Eq) (rEqA K) rdEq := by
  subst hk
  exact ⟨op_eq.or (op_eqD hu), fun S μ H x y dx dy Q QD r hx hy k q => by
  rcases q with ⟨i, j, rfl, rfl, q⟩ | ⟨h1, h2, q⟩
  · have hx : x = .str i := hx
    have hy : y = .str j := hy
    subst hx hy
    refine .inl ⟨rfl, ?_⟩
    rw [dec_str]
    exact k S μ H _ (.bl (decide (i = j))) Grow.refl r rfl q
  · obtain ⟨p, e1, s1⟩ := shD_some h1
    obtain ⟨p', e2, s2⟩ := shD_some h2
    exact .inr ⟨p, p', dp_drf r hx e1, dp_drf r hy e2, s1, s2, k S μ H _ (.bl (eqD (drf μ dx) (drf μ dy))) Grow.refl r (by unfold eqD; rw [e1, e2]; rfl) q⟩⟩
theorem o_ne (hu : X.A.units + 64 < cLine) (hk : X.K = K := by rfl) : PDOp K X (compareOp .NotEq) (rNeA K) rdNe := by
  subst hk
  exact ⟨op_ne.or (op_neD hu), fun S μ H x y dx dy Q QD r hx hy k q => by
  rcases q with ⟨i, j, rfl, rfl, q⟩ | ⟨h1, h2, q⟩
  · have hx : x = .str i := hx
    have hy : y = .str j := hy
    subst hx hy
    refine .inl ⟨rfl, ?_⟩
    rw [dec_str]
    exact k S μ H _ (.bl (!decide (i = j))) Grow.refl r rfl q
  · obtain ⟨p, e1, s1⟩ := shD_some h1
    obtain ⟨p', e2, s2⟩ := shD_some h2
    exact .inr ⟨p, p', dp_drf r hx e1, dp_drf r hy e2, s1, s2, k S μ H _ (.bl (!eqD (drf μ dx) (drf μ dy))) Grow.refl r (by unfold eqD; rw [e1, e2]; rfl) q⟩⟩
/-! ### items, slices -/
def seqOf (μ : Mem) : D → Option (List D)
  | .lst l => some l
  | .scr l => some l
  | .tup l => some l
  | .ref p => match μ p with
    | some (.lst l) => some l
    | _ => none
  | _ => none
theorem seq_is {S : Hp} {μ : Mem} {H : Hp} (r : R3 K S μ H) {d : D} {v : V} {l : List D} (h : Rep K S d v) (e : seqOf μ d = some l) : ∃ a vs, v = .ref a ∧ (SqL K H a vs ∨ SqT K H a vs) ∧ RepL K S l vs := by
  cases d with
  | lst m => cases e; obtain ⟨a, vs, rfl, h1, h2⟩ := h; exact ⟨a, vs, rfl, .inl (SqL.of (exr_lst r.ex h1)), h2⟩
  | scr m => cases e; obtain ⟨a, vs, rfl, h1, h2⟩ := h; exact ⟨a, vs, rfl, .inl (exr_l r.ex h1), h2⟩
  | tup m => cases e; obtain ⟨a, vs, rfl, h1, h2⟩ := h; exact ⟨a, vs, rfl, .inr (exr_t r.ex (SqT.of h1)), h2⟩
  | ref p =>
    have h : v = .ref p := h
    unfold seqOf at e
    dsimp only at e
    split at e
    · cases e
      rename_i hm
      obtain ⟨_, o, h1, vs, rfl, h2⟩ := r.mu p _ hm
      exact ⟨p, vs, h, .inl (SqL.of h1), h2⟩
    · cases e
  | _ => cases e
theorem RepL.atI {S : Hp} {l : List D} {vs : List V} {i : Int} {d : D} (h : RepL K S l vs) (e : L2.atI l i = some d) : ∃ v, L2.atI vs i = some v ∧ Rep K S d v := by
  unfold L2.atI at e ⊢
  rw [RepL.length h]
  cases q : ixN l.length i with
  | none => rw [q] at e; cases e
  | some j =>
    rw [q] at e
    exact RepL.get h e
def rdIx : DR := fun x y μ Q => ∃ i, y = .int i ∧ ((∃ l d, seqOf μ x = some l ∧ atI l i = some d ∧ Q d μ) ∨ (∃ z c, x = .str z ∧ z.length ≤ sizeLine ∧ atI z.cps.toList i = some c ∧ Q (.str ⟨#[c]⟩) μ))
theorem sim_ix : SimR K (rIx K) rdIx := fun S μ H x y dx dy Q QD r hx hy k q => by
  obtain ⟨i, rfl, q⟩ := q
  have hy : y = .int i := hy
  subst hy
  rcases q with ⟨l, d, e, ea, q⟩ | ⟨z, c, rfl, hz, ea, q⟩
  · obtain ⟨a, vs, rfl, hs, h2⟩ := seq_is r hx e
    obtain ⟨v, e1, hv⟩ := RepL.atI h2 ea
    have q' := k S μ H v d Grow.refl r hv q
    rcases hs with hs | hs
    · exact .inl ⟨a, vs, i, v, rfl, rfl, hs, e1, q'⟩
    · exact .inr (.inl ⟨a, vs, i, v, rfl, rfl, hs, e1, q'⟩)
  · exact .inr (.inr ⟨z, i, c, hx, rfl, hz, ea, k S μ H _ (.str ⟨#[c]⟩) Grow.refl r rfl q⟩)
theorem d_ix {a b : Expr} {pos : Pos} {ta tb : TE} {da db : DE} (ha : PD K Z X a ta da) (hb : PD K Z X b tb db) (hs : PlainIx b := by exact fun _ _ => rfl) (hk : X.K = K := by rfl) : PD K Z X (.Subscript a b pos) (tOp (rIx K) ta tb) (dOp rdIx da db) := by
  subst hk
  exact ⟨pe_ix ix_seq ha.p hb.p hs, simOp sim_ix ha.s hb.s⟩
def dNoPart : DO := fun δ μ Q => Q none δ μ
def dPart (de : DE) : DO := fun δ μ Q => de δ μ fun x δ1 μ1 => ∃ i, x = .int i ∧ Q (some i) δ1 μ1
theorem po_n : PDO K Z X none tNoPart dNoPart := ⟨po_none, fun B hB S μ H σ δ Q QD rl k q => k S μ H δ _ (Ex.refl S) rl q⟩
theorem po_s {e : Expr} {te : TE} {de : DE} (h : PD K Z X e te de) : PDO K Z X (some e) (tPart te) (dPart de) := ⟨po_some h.p, fun B hB S μ H σ δ Q QD rl k q => by
  refine h.s B hB S μ H σ δ _ _ rl (fun S1 μ1 H1 δ1 x dx e1 r1 hx q1 => ?_) q
  obtain ⟨i, rfl, q1⟩ := q1
  exact ⟨i, hx, k S1 μ1 H1 δ1 _ e1 r1 q1⟩⟩
def cutD (xs : List D) (lo hi : Option Int) : List D := (xs.drop (HT.sIx xs.length 0 lo)).take (HT.sIx xs.length xs.length hi - HT.sIx xs.length 0 lo)
theorem RepL.cut {S : Hp} {l : List D} {vs : List V} (h : RepL K S l vs) (lo hi : Option Int) : RepL K S (cutD l lo hi) (cutV vs lo hi) := by
  unfold cutD cutV
  rw [RepL.length h]
  exact RepL.take _ (RepL.drop _ h)
abbrev DSl := D → Option Int → Option Int → Mem → QM → Prop
def rdSl : DSl := fun x lo hi μ Q => (∃ z, x = .str z ∧ z.length ≤ sizeLine ∧ Q (.str (cutS z lo hi)) μ) ∨ (∃ l, x = .tup l ∧ Q (.tup (cutD l lo hi)) μ) ∨ (∃ l, (∀ m, x ≠ .tup m) ∧ seqOf μ x = some l ∧ Q (.lst (cutD l lo hi)) μ)
def rSlAll (K : PySem.W.Frag) : V → Option Int → Option Int → Hp → VK → Prop := fun x lo hi H Q => rSlS x lo hi H Q ∨ (rSlA K x lo hi H Q ∨ rSlL K x lo hi H Q)
theorem seq_isL {S : Hp} {μ : Mem} {H : Hp} (r : R3 K S μ H) {d : D} {v : V} {l : List D} (h : Rep K S d v) (hn : ∀ m, d ≠ .tup m) (e : seqOf μ d = some l) : ∃ a vs, v = .ref a ∧ SqL K H a vs ∧ RepL K S l vs := by
  cases d with
  | lst m => cases e; obtain ⟨a, vs, rfl, h1, h2⟩ := h; exact ⟨a, vs, rfl, (SqL.of (exr_lst r.ex h1)), h2⟩
  | scr m => cases e; obtain ⟨a, vs, rfl, h1, h2⟩ := h; exact ⟨a, vs, rfl, (exr_l r.ex h1), h2⟩
  | tup m => exact absurd rfl (hn m)
  | ref p =>
    have h : v = .ref p := h
    unfold seqOf at e
    dsimp only at e
    split at e
    · cases e
      rename_i hm
      obtain ⟨_, o, h1, vs, rfl, h2⟩ := r.mu p _ hm
      exact ⟨p, vs, h, (SqL.of h1), h2⟩
    · cases e
  | _ => cases e
def dSl (de : DE) (dl dh : DO) : DE := fun δ μ Q => de δ μ fun x δ1 μ1 => dl δ1 μ1 fun lo δ2 μ2 => dh δ2 μ2 fun hi δ3 μ3 => rdSl x lo hi μ3 fun d μ4 => Q d δ3 μ4
theorem cutV_all {xs : List V} {lo hi : Option Int} (h : HT.sIx xs.length 0 lo = 0 ∧ HT.sIx xs.length xs.length hi = xs.length) : cutV xs lo hi = xs := by
  unfold cutV; rw [h.1, h.2]; simp
theorem cutD_all {xs : List D} {lo hi : Option Int} (h : HT.sIx xs.length 0 lo = 0 ∧ HT.sIx xs.length xs.length hi = xs.length) : cutD xs lo hi = xs := by
  unfold cutD; rw [h.1, h.2]; simp
theorem d_slice {e : Expr} {lo hi : Option Expr} {p2 pos : Pos} {te : TE} {tl th : TO} {de : DE} {dl dh : DO} (he : PD K Z X e te de) (hl : PDO K Z X lo tl dl) (hh : PDO K Z X hi th dh) (hk : X.K = K := by rfl) :
    PD K Z X (.Subscript e (.Slice lo hi none p2) pos) (tSl (rSlAll K) te tl th) (dSl de dl dh) := by
  subst hk
  exact ⟨pe_slice (sl_str.or (sl_tupA.or sl_list)) he.p hl.p hh.p, fun B hB S μ H σ δ Q QD rl k q => by
  refine he.s B hB S μ H σ δ _ _ rl (fun S1 μ1 H1 δ1 x dx e1 r1 hx q1 => ?_) q
  refine hl.s B hB S1 μ1 H1 σ δ1 _ _ r1 (fun S2 μ2 H2 δ2 lo e2 r2 q2 => ?_) q1
  refine hh.s B hB S2 μ2 H2 σ δ2 _ _ r2 (fun S3 μ3 H3 δ3 hi e3 r3 q3 => ?_) q2
  have hx' := Rep.mono (e2.trans e3) _ _ hx
  have ex := (e1.trans e2).trans e3
  rcases q3 with ⟨z, rfl, hz, q⟩ | ⟨l, rfl, q⟩ | ⟨l, hn, e, q⟩
  · exact .inl ⟨z, hx', hz, k S3 μ3 H3 δ3 _ (.str (cutS z lo hi)) ex r3 rfl q⟩
  · obtain ⟨a, vs, rfl, h1, h2⟩ := hx'
    refine .inr (.inl ⟨a, vs, rfl, exr_t r3.r3.ex (SqT.of h1), fun hw => ?_, fun _ p hp => ?_⟩)
    · refine k S3 μ3 H3 δ3 _ (.tup (cutD l lo hi)) ex r3 ⟨a, vs, rfl, h1, ?_⟩ q
      have e' := RepL.length h2
      rw [e'] at hw
      rw [cutD_all hw]
      exact h2
    · obtain ⟨r4, g⟩ := r3.r3.alloc (o := .tup (cutV vs lo hi)) hp
      exact k _ μ3 _ δ3 _ (.tup (cutD l lo hi)) (ex.trans g.ex) (r3.grow g r4) ⟨p, _, rfl, upd_same, RepL.mono g.ex _ _ (RepL.cut h2 lo hi)⟩ q
  · obtain ⟨a, vs, rfl, hs, h2⟩ := seq_isL r3.r3 hx' hn e
    refine .inr (.inr ⟨a, vs, rfl, hs, fun p hp => ?_⟩)
    obtain ⟨r4, g⟩ := r3.r3.alloc (o := .lst (cutV vs lo hi)) hp
    exact k _ μ3 _ δ3 _ (.lst (cutD l lo hi)) (ex.trans g.ex) (r3.grow g r4) ⟨p, _, rfl, upd_same, RepL.mono g.ex _ _ (RepL.cut h2 lo hi)⟩ q⟩
/-! ### built-in calls -/
def rLenA (K : PySem.W.Frag) : List V → Hp → VK → Prop := fun xs H Q => (∃ p ys, xs = [.ref p] ∧ (SqL K H p ys ∨ SqT K H p ys) ∧ Q (.int ys.length) H) ∨ (∃ z, xs = [.str z] ∧ z.length ≤ sizeLine ∧ Q (.int z.length) H)
def rdLen : DC := fun xs μ Q => ∃ x, xs = [x] ∧ ((∃ l, seqOf μ x = some l ∧ Q (.int l.length) μ) ∨ (∃ z, x = .str z ∧ z.length ≤ sizeLine ∧ Q (.int z.length) μ))
theorem RepL.one' {S : Hp} {d : D} {vs : List V} (h : RepL K S [d] vs) : ∃ v, vs = [v] ∧ Rep K S d v := by
  obtain ⟨v, r, rfl, h1, h2⟩ := h
  have h2 : r = [] := h2
  exact ⟨v, by rw [h2], h1⟩
theorem RepL.two' {S : Hp} {d e : D} {vs : List V} (h : RepL K S [d, e] vs) : ∃ v w, vs = [v, w] ∧ Rep K S d v ∧ Rep K S e w := by
  obtain ⟨v, r, rfl, h1, h2⟩ := h
  obtain ⟨w, rfl, h3⟩ := RepL.one' h2
  exact ⟨v, w, rfl, h1, h3⟩
theorem c_len (hk : X.K = K := by rfl) : PDC K X (.builtin "len") (rLenA K) rdLen := by
  subst hk
  exact ⟨call_len_seq.or call_len_str, fun S μ H xs ds Q QD r hx k q => by
  obtain ⟨x, rfl, q⟩ := q
  obtain ⟨v, rfl, hv⟩ := RepL.one' hx
  rcases q with ⟨l, e, q⟩ | ⟨z, rfl, hz, q⟩
  · obtain ⟨a, vs, rfl, hs, h2⟩ := seq_is r hv e
    exact .inl ⟨a, vs, rfl, hs, k S μ H _ (.int l.length) Grow.refl r (by rw [RepL.length h2]; rfl) q⟩
  · have hv : v = .str z := hv
    subst hv
    exact .inr ⟨z, rfl, hz, k S μ H _ (.int z.length) Grow.refl r rfl q⟩⟩
def rMin2 : List V → Hp → VK → Prop := fun xs H Q => ∃ i j, xs = [.int i, .int j] ∧ Q (.int (if j < i then j else i)) H
def rdMax2 : DC := fun xs μ Q => ∃ i j : Int, xs = [.int i, .int j] ∧ Q (.int (max i j)) μ
def rdMin2 : DC := fun xs μ Q => ∃ i j : Int, xs = [.int i, .int j] ∧ Q (.int (min i j)) μ
theorem c_max2 (hc : X.calm = true) : PDC K X (.builtin "max") Evl.rMax2 rdMax2 := ⟨call_max2 hc, fun S μ H xs ds Q QD r hx k q => by
  obtain ⟨i, j, rfl, q⟩ := q
  obtain ⟨v, w, rfl, h1, h2⟩ := RepL.two' hx
  have h1 : v = .int i := h1
  have h2 : w = .int j := h2
  subst h1 h2
  exact ⟨i, j, rfl, k S μ H _ (.int (max i j)) Grow.refl r (show V.int _ = V.int _ by congr 1; rw [Int.max_def]; split <;> split <;> omega) q⟩⟩
theorem c_min2 (hc : X.calm = true) : PDC K X (.builtin "min") rMin2 rdMin2 := ⟨call_min2 hc, fun S μ H xs ds Q QD r hx k q => by
  obtain ⟨i, j, rfl, q⟩ := q
  obtain ⟨v, w, rfl, h1, h2⟩ := RepL.two' hx
  have h1 : v = .int i := h1
  have h2 : w = .int j := h2
  subst h1 h2
  exact ⟨i, j, rfl, k S μ H _ (.int (min i j)) Grow.refl r (show V.int _ = V.int _ by congr 1; rw [Int.min_def]; split <;> split <;> omega) q⟩⟩
def rdAll : DC := fun xs μ Q => ∃ bs : List Bool, xs = [.lst (bs.map .bl)] ∧ Q (.bl (bs.all id)) μ
theorem c_all (hc : X.calm = true) (hk : X.K = K := by rfl) : PDC K X (.builtin "all") (rAll K) rdAll := by
  subst hk
  exact ⟨cr_all hc, fun S μ H xs ds Q QD r hx k q => by
  obtain ⟨bs, rfl, q⟩ := q
  obtain ⟨v, rfl, hv⟩ := RepL.one' hx
  obtain ⟨a, vs, rfl, h1, h2⟩ := hv
  rw [RepL.bl h2] at h1
  exact ⟨a, bs, rfl, SqL.of (exr_lst r.ex h1), k S μ H _ (.bl (bs.all id)) Grow.refl r rfl q⟩⟩
def rListA (K : PySem.W.Frag) : List V → Hp → VK → Prop := fun xs H Q => ∃ p ys, xs = [.ref p] ∧ (SqL K H p ys ∨ SqT K H p ys) ∧ ∀ l, H l = none → Q (.ref l) (upd H l (.lst ys))
def rdList : DC := fun xs μ Q => ∃ x l, xs = [x] ∧ seqOf μ x = some l ∧ Q (.lst l) μ
theorem c_list (hk : X.K = K := by rfl) : PDC K X (.type "list") (rListA K) rdList := by
  subst hk
  exact ⟨call_list_of, fun S μ H xs ds Q QD r hx k q => by
  obtain ⟨x, l, rfl, e, q⟩ := q
  obtain ⟨v, rfl, hv⟩ := RepL.one' hx
  obtain ⟨a, vs, rfl, hs, h2⟩ := seq_is r hv e
  refine ⟨a, vs, rfl, hs, fun p hp => ?_⟩
  obtain ⟨r4, g⟩ := r.alloc (o := .lst vs) hp
  exact k _ μ _ _ (.lst l) g r4 ⟨p, vs, rfl, upd_same, RepL.mono g.ex _ _ h2⟩ q⟩
def rTupA (K : PySem.W.Frag) : List V → Hp → VK → Prop := fun xs H Q => ∃ p ys, xs = [.ref p] ∧ ((SqL K H p ys ∧ ∀ l, H l = none → Q (.ref l) (upd H l (.tup ys))) ∨ (SqT K H p ys ∧ Q (.ref p) H))
def rdTup : DC := fun xs μ Q => ∃ x l, xs = [x] ∧ seqOf μ x = some l ∧ Q (.tup l) μ
theorem c_tuple (hk : X.K = K := by rfl) : PDC K X (.type "tuple") (rTupA K) rdTup := by
  subst hk
  exact ⟨call_tuple_of, fun S μ H xs ds Q QD r hx k q => by
  obtain ⟨x, l, rfl, e, q⟩ := q
  obtain ⟨v, rfl, hv⟩ := RepL.one' hx
  by_cases hn : ∃ m, x = .tup m
  · obtain ⟨m, rfl⟩ := hn
    cases e
    obtain ⟨a, vs, rfl, h1, h2⟩ := hv
    exact ⟨a, vs, rfl, .inr ⟨exr_t r.ex (SqT.of h1), k S μ H _ (.tup l) Grow.refl r ⟨a, vs, rfl, h1, h2⟩ q⟩⟩
  · obtain ⟨a, vs, rfl, hs, h2⟩ := seq_isL r hv (fun m z => hn ⟨m, z⟩) e
    refine ⟨a, vs, rfl, .inl ⟨hs, fun p hp => ?_⟩⟩
    obtain ⟨r4, g⟩ := r.alloc (o := .tup vs) hp
    exact k _ μ _ _ (.tup l) g r4 ⟨p, vs, rfl, upd_same, RepL.mono g.ex _ _ h2⟩ q⟩
/-- isinstance(x, T), both built-in -/
def tyD : D → Option String
  | .non => some "NoneType"
  | .bl _ => some "bool"
  | .int _ => some "int"
  | .str _ => some "str"
  | .tup _ => some "tuple"
  | .lst _ => some "list"
  | .dct _ => some "dict"
  | _ => none
end Dl

namespace Dl
open PySem PySem.Spec PyProof.Rows L2
variable {X : Cx} {K : PySem.W.Frag} {Z : Bs}
/-! ### fresh objects -/
abbrev DF := Ss → Mem → (MO → Ss → Mem → Prop) → Prop
def SimF (K : PySem.W.Frag) (Z : Bs) (te : TE) (df : DF) : Prop := ∀ (B : Bs) (_ : SameB Z B) (S : Hp) (μ : Mem) (H : Hp) (σ : L2.St) (δ : Ss) (Q : VK) (QF : MO → Ss → Mem → Prop), Rel K B S μ H σ δ →
  (∀ S' μ' H' δ' p o m, Ex S S' → Rel K B S' μ' H' σ δ' → Fresh B S' μ' H' σ δ' p o → RepM K S' m o → QF m δ' μ' → Q (.ref p) H') → df δ μ QF → te σ H Q
structure PDF (K : PySem.W.Frag) (Z : Bs) (X : Cx) (e : Expr) (te : TE) (df : DF) : Prop where
  p : PE X e te
  s : SimF K Z te df
def dIce (df : DF) : DE := fun δ μ Q => df δ μ fun m δ1 μ1 => Q (frozen m) δ1 μ1
theorem simIce {te : TE} {df : DF} (h : SimF K Z te df) : SimE K Z te (dIce df) := fun B hB S μ H σ δ Q QD rl k q => by
  refine h B hB S μ H σ δ _ _ rl (fun S1 μ1 H1 δ1 p o m e1 r1 f hm q1 => ?_) q
  obtain ⟨e2, r2, hr⟩ := r1.iceF f hm
  exact k _ μ1 H1 δ1 _ (frozen m) (e1.trans e2) r2 hr q1
theorem d_ice {e : Expr} {te : TE} {df : DF} (h : PDF K Z X e te df) : PD K Z X e te (dIce df) := ⟨h.p, simIce h.s⟩
def fLst (da : DA) : DF := fun δ μ Q => da δ μ fun xs δ1 μ1 => xs.length ≤ sizeLine ∧ Q (.lst xs) δ1 μ1
theorem simFLst {ta : TA} {da : DA} (h : SimA K Z ta da) : SimF K Z (tLst ta) (fLst da) := fun B hB S μ H σ δ Q QD rl k q => by
  refine h B hB S μ H σ δ _ _ rl (fun S1 μ1 H1 δ1 xs ds e1 r1 hx q1 => ?_) q
  refine ⟨by rw [RepL.length hx]; exact q1.1, fun p hp => ?_⟩
  obtain ⟨r2, f⟩ := r1.fresh (o := .lst xs) hp
  exact k S1 μ1 _ δ1 p _ (.lst ds) e1 r2 f ⟨xs, rfl, hx⟩ q1.2
theorem f_lst {es : List Expr} {pos} {ta : TA} {da : DA} (h : PDA K Z X es ta da) : PDF K Z X (.List es pos) (tLst ta) (fLst da) := ⟨pe_lst h.p, simFLst h.s⟩
def fDic0 : DF := fun δ μ Q => Q (.dct []) δ μ
theorem f_dic0 {pos} : PDF K Z X (.Dict [] [] pos) tDNewK fDic0 := ⟨pe_dnewK, fun B hB S μ H σ δ Q QD rl k q => fun p hp => by
  obtain ⟨r2, f⟩ := rl.fresh (o := .dK []) hp
  exact k S μ _ δ p _ (.dct []) (Ex.refl S) r2 f ⟨[], rfl, rfl⟩ q⟩
def fDicT : DF := fun δ μ Q => Q (.dcT []) δ μ
theorem f_dicT {pos} : PDF K Z X (.Dict [] [] pos) tDNewT fDicT := ⟨pe_dnewT, fun B hB S μ H σ δ Q QD rl k q => fun p hp => by
  obtain ⟨r2, f⟩ := rl.fresh (o := .dT []) hp
  exact k S μ _ δ p _ (.dcT []) (Ex.refl S) r2 f ⟨[], rfl, rfl⟩ q⟩
/-! ### targets -/
def gdName (i : Nat) : DG := fun d δ μ Q => Q (δ.set i (.val d)) μ
theorem simGName {i : Nat} : SimG K Z (gName i) (gdName i) := fun B hB S μ H σ δ v d Q QD rl h k q => k S μ H _ _ (Ex.refl S) (rl.set h) q
theorem g_name {i : Nat} {x : Str} {pos} (hN : X.N.Nodup) (hi : X.N[i]? = some x := by rfl) (hx : Loc X.env.scope x := by first | exact Or.inl rfl | exact Or.inr rfl) (hf : X.fn x = true ∨ X.env.scope.names.lookup x = some .local := by first | exact .inl rfl | exact .inr rfl | assumption) : PDG K Z X (.Name x pos) (gName i) (gdName i) :=
  ⟨pg_name hN hi hx hf, simGName⟩
def gdNil : DGs := fun ds δ μ Q => ds = [] ∧ Q δ μ
def gdCons (t : DG) (u : DGs) : DGs := fun ds δ μ Q => ∃ d r, ds = d :: r ∧ t d δ μ fun δ' μ' => u r δ' μ' Q
theorem gs_nil : PDGs K Z X [] gNil gdNil := ⟨pgs_nil, fun B hB S μ H σ δ v d Q QD rl h k q => by
  obtain ⟨rfl, q⟩ := q
  exact ⟨h, k S μ H σ δ (Ex.refl S) rl q⟩⟩
theorem gs_cons {e : Expr} {es : List Expr} {t : TG} {u : TGs} {d : DG} {du : DGs} (h1 : PDG K Z X e t d) (h2 : PDGs K Z X es u du) (ha : (assignEach (e :: es) X.env) = (assignEach [e] X.env) ++ (assignEach es X.env) := by rfl) (hp : PGs X (e :: es) (gCons t u)) : PDGs K Z X (e :: es) (gCons t u) (gdCons d du) :=
  ⟨hp, fun B hB S μ H σ δ v ds Q QD rl h k q => by
    obtain ⟨x, r, rfl, q⟩ := q
    obtain ⟨y, ys, rfl, hy, hys⟩ := h
    refine ⟨y, ys, rfl, h1.s B hB S μ H σ δ y x _ _ rl hy (fun S1 μ1 H1 σ1 δ1 e1 r1 q1 => ?_) q⟩
    exact h2.s B hB S1 μ1 H1 σ1 δ1 ys r _ _ r1 (RepL.mono e1 _ _ hys) (fun S2 μ2 H2 σ2 δ2 e2 r2 q2 => k S2 μ2 H2 σ2 δ2 (e1.trans e2) r2 q2) q1⟩
def gdTup (n : Nat) (t : DGs) : DG := fun d δ μ Q => ∃ l, d = .tup l ∧ l.length = n ∧ t l δ μ Q
theorem simGTup {n : Nat} {t : TGs} {d : DGs} (h : SimGs K Z t d) : SimG K Z (gTup K n t) (gdTup n d) := fun B hB S μ H σ δ v ds Q QD rl hr k q => by
  obtain ⟨l, rfl, hl, q⟩ := q
  obtain ⟨a, vs, rfl, h1, h2⟩ := hr
  exact ⟨a, vs, rfl, exr_t rl.r3.ex (SqT.of h1), by rw [RepL.length h2]; exact hl, h B hB S μ H σ δ vs l _ _ rl h2 k q⟩
/-! ### statements -/
def dNext : DS := fun DD δ μ => DD.nx δ μ
def dSeq (t u : DS) : DS := fun DD δ μ => t { DD with nx := u DD } δ μ
theorem ss_nil : PDSs K Z X [] tNext dNext := ⟨pss_nil, fun B hB S μ H σ δ E DD rl lf q => lf.nx S μ H σ δ rl q⟩
theorem ss_cons {st : Stmt} {rest : List Stmt} {t u : TS} {d du : DS} (h1 : PDS K Z X st t d) (h2 : PDSs K Z X rest u du) : PDSs K Z X (st :: rest) (tSeq t u) (dSeq d du) := ⟨pss_cons h1.p h2.p, fun B hB S μ H σ δ E DD rl lf q => by
  refine h1.s B hB S μ H σ δ _ { DD with nx := du DD } rl ⟨fun S1 μ1 H1 σ1 δ1 r1 q1 => ?_, lf.rt, lf.bk, lf.ct⟩ q
  exact h2.s B hB S1 μ1 H1 σ1 δ1 E DD r1 lf q1⟩
theorem ss_one {st : Stmt} {t : TS} {d : DS} (h1 : PDS K Z X st t d) : PDSs K Z X [st] t d := ⟨pss_one h1.p, h1.s⟩
theorem s_pass {pos} : PDS K Z X (.Pass pos) tNext dNext := ⟨ps_pass, fun B hB S μ H σ δ E DD rl lf q => lf.nx S μ H σ δ rl q⟩
theorem s_doc {x j pos pos'} : PDS K Z X (.Expr (.Constant (.str x) j pos) pos') tNext dNext := ⟨ps_doc, fun B hB S μ H σ δ E DD rl lf q => lf.nx S μ H σ δ rl q⟩
def dBreak : DS := fun DD δ μ => DD.bk δ μ
def dCont : DS := fun DD δ μ => DD.ct δ μ
theorem s_break {pos} : PDS K Z X (.Break pos) tBreak dBreak := ⟨ps_break, fun B hB S μ H σ δ E DD rl lf q => lf.bk S μ H σ δ rl q⟩
theorem s_continue {pos} : PDS K Z X (.Continue pos) tCont dCont := ⟨ps_continue, fun B hB S μ H σ δ E DD rl lf q => lf.ct S μ H σ δ rl q⟩
def dDrop (de : DE) : DS := fun DD δ μ => de δ μ fun _ δ1 μ1 => DD.nx δ1 μ1
theorem s_expr {e : Expr} {pos} {te : TE} {de : DE} (h : PD K Z X e te de) (hs : swapsWith e none pos.line X.env = pure false := by rfl) : PDS K Z X (.Expr e pos) (tDrop te) (dDrop de) := ⟨ps_expr h.p hs, fun B hB S μ H σ δ E DD rl lf q =>
  h.s B hB S μ H σ δ _ _ rl (fun S1 μ1 H1 δ1 v d e1 r1 _ q1 => lf.nx S1 μ1 H1 σ δ1 r1 q1) q⟩
def dRet (de : DE) : DS := fun DD δ μ => de δ μ fun d _ μ1 => DD.rt d μ1
theorem s_ret {e : Expr} {pos} {te : TE} {de : DE} (h : PD K Z X e te de) : PDS K Z X (.Return (some e) pos) (tRet te) (dRet de) := ⟨ps_ret h.p, fun B hB S μ H σ δ E DD rl lf q =>
  h.s B hB S μ H σ δ _ _ rl (fun S1 μ1 H1 δ1 v d e1 r1 hv q1 => lf.rt S1 μ1 H1 v d r1.r3 r1.gr hv q1) q⟩
def dRetN : DS := fun DD _ μ => DD.rt .non μ
theorem s_retN {pos} : PDS K Z X (.Return none pos) tRetN dRetN := ⟨ps_retN, fun B hB S μ H σ δ E DD rl lf q => lf.rt S μ H .non .non rl.r3 rl.gr rfl q⟩
def dIfS (c : DT) (t u : DS) : DS := fun DD δ μ => c δ μ fun b δ1 μ1 => if b = true then t DD δ1 μ1 else u DD δ1 μ1
theorem s_if {c : Expr} {a b : List Stmt} {pos} {tc : TT} {t u : TS} {dc : DT} {d du : DS} (hc : PDT K Z X c tc dc) (ha : PDSs K Z X a t d) (hb : PDSs K Z X b u du) : PDS K Z X (.If c a b pos) (tIfS tc t u) (dIfS dc d du) := ⟨ps_if hc.p ha.p hb.p, fun B hB S μ H σ δ E DD rl lf q => by
  refine hc.s B hB S μ H σ δ _ _ rl (fun S1 μ1 H1 δ1 b e1 r1 q1 => ?_) q
  cases b with
  | true => rw [if_pos rfl] at q1 ⊢; exact ha.s B hB S1 μ1 H1 σ δ1 E DD r1 lf q1
  | false => rw [if_neg Bool.false_ne_true] at q1 ⊢; exact hb.s B hB S1 μ1 H1 σ δ1 E DD r1 lf q1⟩
def dNever : DS := fun _ _ _ => False
theorem s_never {st : Stmt} : PDS K Z X st tNever dNever := ⟨ps_never, fun _ _ _ _ _ _ _ _ _ _ _ q => q.elim⟩
theorem ss_never {sts : List Stmt} : PDSs K Z X sts tNever dNever := ⟨pss_never, fun _ _ _ _ _ _ _ _ _ _ _ q => q.elim⟩
def dAsg (de : DE) (g : DG) : DS := fun DD δ μ => de δ μ fun d δ1 μ1 => g d δ1 μ1 DD.nx
theorem simAsg {te : TE} {g : TG} {de : DE} {dg : DG} (h : SimE K Z te de) (hg : SimG K Z g dg) : SimS K Z (tAsg te g) (dAsg de dg) := fun B hB S μ H σ δ E DD rl lf q =>
  h B hB S μ H σ δ _ _ rl (fun S1 μ1 H1 δ1 v d e1 r1 hv q1 => hg B hB S1 μ1 H1 σ δ1 v d _ _ r1 hv (fun S2 μ2 H2 σ2 δ2 e2 r2 q2 => lf.nx S2 μ2 H2 σ2 δ2 r2 q2) q1) q
theorem s_asg {tg e : Expr} {pos} {te : TE} {g : TG} {de : DE} {dg : DG} (he : PD K Z X e te de) (hg : PDG K Z X tg g dg) (hs : swapsWithSole [tg] e pos.line X.env = pure false := by rfl) (hw : swappedStores [tg] e X.env = pure none := by rfl)
    (h1 : (assignEach [tg] X.env).map (·.2) = [assign tg X.env] := by rfl) : PDS K Z X (.Assign [tg] e pos) (tAsg te g) (dAsg de dg) := ⟨ps_asg he.p hg.p hs hw h1, simAsg he.s hg.s⟩
def dSet (i : Nat) (de : DE) : DS := fun DD δ μ => de δ μ fun d δ1 μ1 => DD.nx (δ1.set i (.val d)) μ1
theorem s_set {i : Nat} {x : Str} {e : Expr} {pos pos' : Pos} {te : TE} {de : DE} (hN : X.N.Nodup) (he : PD K Z X e te de) (hi : X.N[i]? = some x := by rfl) (hx : Loc X.env.scope x := by first | exact Or.inl rfl | exact Or.inr rfl) (hs : swapsWith e (some (.Name x pos')) pos.line X.env = pure false := by rfl)
    (hf : X.fn x = true ∨ X.env.scope.names.lookup x = some .local := by first | exact .inl rfl | exact .inr rfl | assumption) : PDS K Z X (.Assign [.Name x pos'] e pos) (tAsg te (gName i)) (dSet i de) := ⟨ps_set hN hi hx he.p hs hf, simAsg he.s simGName⟩
def dOwn (i : Nat) (df : DF) : DS := fun DD δ μ => df δ μ fun m δ1 μ1 => DD.nx (δ1.set i (.own m)) μ1
theorem simOwn {i : Nat} {te : TE} {df : DF} (h : SimF K Z te df) : SimS K Z (tAsg te (gName i)) (dOwn i df) := fun B hB S μ H σ δ E DD rl lf q =>
  h B hB S μ H σ δ _ _ rl (fun S1 μ1 H1 δ1 p o m e1 r1 f hm q1 => lf.nx S1 μ1 H1 _ _ (r1.ownF f hm) q1) q
theorem s_own {i : Nat} {x : Str} {e : Expr} {pos pos' : Pos} {te : TE} {df : DF} (hN : X.N.Nodup) (he : PDF K Z X e te df) (hi : X.N[i]? = some x := by rfl) (hx : Loc X.env.scope x := by first | exact Or.inl rfl | exact Or.inr rfl) (hs : swapsWith e (some (.Name x pos')) pos.line X.env = pure false := by rfl)
    (hf : X.fn x = true ∨ X.env.scope.names.lookup x = some .local := by first | exact .inl rfl | exact .inr rfl | assumption) : PDS K Z X (.Assign [.Name x pos'] e pos) (tAsg te (gName i)) (dOwn i df) := ⟨ps_set hN hi hx he.p hs hf, simOwn he.s⟩
/-- x op= e of ints -/
def dAug (i : Nat) (de : DE) (f : Int → Int → Int) : DS := fun DD δ μ => ∃ n, δ[i]? = some (.val (.int n)) ∧ de δ μ fun d δ1 μ1 => ∃ m, d = .int m ∧ DD.nx (δ1.set i (.val (.int (f n m)))) μ1
theorem simAug {i : Nat} {te : TE} {de : DE} {f : Int → Int → Int} (h : SimE K Z te de) : SimS K Z (tAug i te (ipI f)) (dAug i de f) := fun B hB S μ H σ δ E DD rl lf q => by
  obtain ⟨n, e, q⟩ := q
  obtain ⟨v, e1, h1⟩ := rl.var e
  have h1 : v = .int n := h1
  subst h1
  refine ⟨.int n, e1, h B hB S μ H σ δ _ _ rl (fun S1 μ1 H1 δ1 v d e1 r1 hv q1 => ?_) q⟩
  obtain ⟨m, rfl, q1⟩ := q1
  exact ⟨n, m, rfl, hv, lf.nx S1 μ1 H1 _ _ (r1.set (d := .int (f n m)) rfl) q1⟩
theorem s_augAdd {i : Nat} {x : Str} {e : Expr} {pos pos' : Pos} {te : TE} {de : DE} (hN : X.N.Nodup) (he : PD K Z X e te de) (hi : X.N[i]? = some x := by rfl) (hx : Loc X.env.scope x := by first | exact Or.inl rfl | exact Or.inr rfl) (hf : X.fn x = true ∨ X.env.scope.names.lookup x = some .local := by first | exact .inl rfl | exact .inr rfl | assumption) (hp : PS X (.AugAssign (.Name x pos') .Add e pos) (tAug i te (ipI fun i j => i + j)) := by exact ps_aug (by assumption) rfl (by first | exact Or.inl rfl | exact Or.inr rfl) (by assumption) ip_add) :
    PDS K Z X (.AugAssign (.Name x pos') .Add e pos) (tAug i te (ipI fun i j => i + j)) (dAug i de fun i j => i + j) := ⟨hp, simAug he.s⟩
/-! ### append -/
def dApp (i : Nat) (de : DE) : DS := fun DD δ μ => (∃ l, δ[i]? = some (.own (.lst l))) ∧ de δ μ fun d δ1 μ1 => ∃ l, δ1[i]? = some (.own (.lst l)) ∧ l.length < sizeLine ∧ DD.nx (δ1.set i (.own (.lst (l ++ [d])))) μ1
theorem Rel.ownAt {B : Bs} {S : Hp} {μ : Mem} {H : Hp} {σ : L2.St} {δ : Ss} (r : Rel K B S μ H σ δ) {i : Nat} {m : MO} (h : δ[i]? = some (.own m)) : ∃ p o, σ[i]? = some (some (.ref p)) ∧ H p = some o ∧ RepM K S m o := by
  obtain ⟨x, e1, p, o, rfl, _, _, _, h4, h5⟩ := r.sl i _ h
  exact ⟨p, o, e1, h4, h5⟩
theorem simApp {i : Nat} {te : TE} {de : DE} (h : SimE K Z te de) : SimS K Z (tDrop (tBM K "list" rAppend (tVar i) (tCons te tNil))) (dApp i de) := fun B hB S μ H σ δ E DD rl lf q => by
  obtain ⟨⟨l, e⟩, q⟩ := q
  obtain ⟨p, o, e1, h1, vs, rfl, h2⟩ := rl.ownAt e
  refine ⟨.ref p, e1, .inl ⟨rfl, vs, SqL.of h1⟩, ?_⟩
  refine h B hB S μ H σ δ _ _ rl (fun S1 μ1 H1 δ1 v d e2 r1 hv q1 => ?_) q
  obtain ⟨l', e3, hl, q1⟩ := q1
  obtain ⟨p', o', e4, h4, ws, rfl, h5⟩ := r1.ownAt e3
  rw [e1] at e4
  cases e4
  exact ⟨p, ws, v, rfl, rfl, h4, by rw [RepL.length h5]; exact hl, lf.nx S1 μ1 _ σ _ (r1.write e3 e1 (m := .lst (l' ++ [d])) ⟨ws ++ [v], rfl, RepL.append h5 (RepL.one hv)⟩) q1⟩
theorem s_app {i : Nat} {x : Str} {e : Expr} {p1 p2 p3 p4 : Pos} {te : TE} {de : DE} (he : PD K Z X e te de) (hp : PS X (.Expr (.Call (.Attribute (.Name x p1) "append" p2) [e] [] p3) p4) (tDrop (tBM K "list" rAppend (tVar i) (tCons te tNil)))) (hk : X.K = K := by rfl) :
    PDS K Z X (.Expr (.Call (.Attribute (.Name x p1) "append" p2) [e] [] p3) p4) (tDrop (tBM K "list" rAppend (tVar i) (tCons te tNil))) (dApp i de) := by
  subst hk
  exact ⟨hp, simApp he.s⟩
/-! ### less is known -/
def Le : Ss → Ss → Prop
  | [], _ => True
  | .no :: a, _ :: b => Le a b
  | s :: a, t :: b => s = t ∧ Le a b
  | _ :: _, [] => False
theorem Le.at : ∀ {a b : Ss} {i : Nat} {s : SL}, Le a b → a[i]? = some s → (∃ t, b[i]? = some t) ∧ (s = .no ∨ b[i]? = some s)
  | [], b, i, s, _, e => by simp at e
  | .no :: a, [], i, s, h, e => by cases h
  | .no :: a, t :: b, 0, s, h, e => by
    simp at e
    exact ⟨⟨t, by simp⟩, .inl e.symm⟩
  | .no :: a, t :: b, i + 1, s, h, e => by
    have z := Le.at (a := a) (b := b) (i := i) (s := s) h (by simpa using e)
    simpa using z
  | .val d :: a, [], i, s, h, e => by cases h
  | .val d :: a, t :: b, 0, s, h, e => by
    simp at e
    have h : SL.val d = t ∧ _ := h
    rw [← h.1, ← e]
    exact ⟨⟨_, rfl⟩, .inr rfl⟩
  | .val d :: a, t :: b, i + 1, s, h, e => by
    have h : SL.val d = t ∧ Le a b := h
    have z := Le.at (a := a) (b := b) (i := i) (s := s) h.2 (by simpa using e)
    simpa using z
  | .own d :: a, [], i, s, h, e => by cases h
  | .own d :: a, t :: b, 0, s, h, e => by
    simp at e
    have h : SL.own d = t ∧ _ := h
    rw [← h.1, ← e]
    exact ⟨⟨_, rfl⟩, .inr rfl⟩
  | .own d :: a, t :: b, i + 1, s, h, e => by
    have h : SL.own d = t ∧ Le a b := h
    have z := Le.at (a := a) (b := b) (i := i) (s := s) h.2 (by simpa using e)
    simpa using z
theorem Le.own {a b : Ss} {i : Nat} {m : MO} (h : Le a b) (e : a[i]? = some (.own m)) : b[i]? = some (.own m) := by
  rcases (h.at e).2 with z | z
  · cases z
  · exact z
theorem Rel.le {B : Bs} {S : Hp} {μ : Mem} {H : Hp} {σ : L2.St} {δ δ0 : Ss} (r : Rel K B S μ H σ δ) (h : Le δ0 δ) : Rel K B S μ H σ δ0 :=
  ⟨r.r3, r.gr, r.lo, fun i s e => by
    obtain ⟨⟨t, e1⟩, e2⟩ := h.at e
    obtain ⟨x, e3, h3⟩ := r.sl i t e1
    refine ⟨x, e3, ?_⟩
    rcases e2 with rfl | e2
    · trivial
    · rw [e1] at e2; cases e2; exact h3, fun i j m n hij e1 e2 => r.dj i j m n hij (h.own e1) (h.own e2), r.fr, fun i m p e1 e2 => r.fd i m p (h.own e1) e2⟩
theorem Le.refl : ∀ a : Ss, Le a a
  | [] => trivial
  | .no :: a => Le.refl a
  | .val _ :: a => ⟨rfl, Le.refl a⟩
  | .own _ :: a => ⟨rfl, Le.refl a⟩
/-- less is known of the memory -/
def LeM (μ0 μ : Mem) : Prop := ∀ a m, μ0 a = some m → μ a = some m
theorem LeM.refl (μ : Mem) : LeM μ μ := fun _ _ h => h
theorem LeM.trans {a b c : Mem} (x : LeM a b) (y : LeM b c) : LeM a c := fun p m h => y p m (x p m h)
theorem LeM.new {μ : Mem} {p : Addr} {m : MO} (h : μ p = none) : LeM μ (updM μ p m) := fun a n e => by
  rw [updM_ne (fun z => by rw [z, h] at e; cases e)]; exact e
theorem Grow.le {S : Hp} {μ : Mem} {H : Hp} {S' : Hp} {μ' μ0 : Mem} {H' : Hp} (g : Grow S μ H S' μ' H') (h : LeM μ0 μ') : Grow S μ H S' μ0 H' := ⟨g.ex, g.st, g.kp, fun a m e => g.me a m (h a m e), g.th⟩
theorem R3.leM {S : Hp} {μ μ0 : Mem} {H : Hp} (r : R3 K S μ H) (h : LeM μ0 μ) : R3 K S μ0 H := ⟨r.ex, fun a m e => r.mu a m (h a m e), r.tb.d h⟩
theorem Rel.leM {B : Bs} {S : Hp} {μ μ0 : Mem} {H : Hp} {σ : L2.St} {δ : Ss} (r : Rel K B S μ H σ δ) (h : LeM μ0 μ) : Rel K B S μ0 H σ δ := by
  have nn : ∀ p, μ p = none → μ0 p = none := fun p hp => by
    cases e : μ0 p with
    | none => rfl
    | some m => rw [h p m e] at hp; cases hp
  refine ⟨r.r3.leM h, r.gr.le h, r.lo, fun i s e => ?_, r.dj, fun p m e => ?_, r.fd⟩
  · obtain ⟨x, e1, h1⟩ := r.sl i s e
    refine ⟨x, e1, ?_⟩
    cases s with
    | no => trivial
    | val d => exact h1
    | own n =>
      obtain ⟨p, o, h2, h3, h4, h5, h6⟩ := h1
      exact ⟨p, o, h2, h3, h4, nn p h5, h6⟩
  · obtain ⟨o, h1, h2, h3, h4⟩ := r.fr p m e
    exact ⟨o, h1, h2, nn p h3, h4⟩
/-- a word, less being known -/
def Wn (W : Ss → Mem → Prop) : Ss → Mem → Prop := fun δ μ => ∃ δ0 μ0, W δ0 μ0 ∧ Le δ0 δ ∧ LeM μ0 μ
theorem wn {W : Ss → Mem → Prop} {δ0 δ : Ss} {μ : Mem} (h : W δ0 μ) (l : Le δ0 δ) : Wn W δ μ := ⟨δ0, μ, h, l, LeM.refl μ⟩
theorem wg {W : Ss → Mem → Prop} {δ0 δ : Ss} {μ0 μ : Mem} (h : W δ0 μ0) (m : LeM μ0 μ) (l : Le δ0 δ) : Wn W δ μ := ⟨δ0, μ0, h, l, m⟩
/-- what is wanted, less being known of the memory -/
def Qw (Q : QM) : QM := fun d μ => ∃ μ0, LeM μ0 μ ∧ Q d μ0
theorem qw {Q : QM} {d : D} {μ μ0 : Mem} (h : Q d μ0) (l : LeM μ0 μ) : Qw Q d μ := ⟨μ0, l, h⟩
def Ew (E : DX) : DX := fun c fs μ => ∃ μ0, LeM μ0 μ ∧ E c fs μ0
theorem ew {E : DX} {c : Str} {fs : XF} {μ μ0 : Mem} (h : E c fs μ0) (l : LeM μ0 μ) : Ew E c fs μ := ⟨μ0, l, h⟩
/-- the rest with a word between -/
def dCut (t u : DS) : DS := fun DD δ μ => ∃ M : Ss → Mem → Prop, t { DD with nx := Wn M } δ μ ∧ ∀ δ' μ', M δ' μ' → u DD δ' μ'
theorem ss_cut {st : Stmt} {rest : List Stmt} {t u : TS} {d du : DS} (h1 : PDS K Z X st t d) (h2 : PDSs K Z X rest u du) : PDSs K Z X (st :: rest) (tSeq t u) (dCut d du) := ⟨pss_cons h1.p h2.p, fun B hB S μ H σ δ E DD rl lf q => by
  obtain ⟨M, q, k⟩ := q
  refine h1.s B hB S μ H σ δ _ { DD with nx := Wn M } rl ⟨fun S1 μ1 H1 σ1 δ1 r1 ⟨δ0, μ0, q1, l1, m1⟩ => ?_, lf.rt, lf.bk, lf.ct⟩ q
  exact h2.s B hB S1 μ0 H1 σ1 δ0 E DD ((r1.le l1).leM m1) lf (k δ0 μ0 q1)⟩
/-! ### for -/
def dFor (di : DI) (dg : DG) (db : DS) : DS := fun DD δ μ => di δ μ fun ds G δ1 μ1 => ∃ W : Nat → Ss → Mem → Prop, Wn (W 0) δ1 μ1 ∧ (∀ i δ μ, i ≤ ds.length → W i δ μ → G μ) ∧
  (∀ i d δ μ, ds[i]? = some d → W i δ μ → dg d δ μ fun δ2 μ2 => db { DD with nx := Wn (W (i + 1)), ct := Wn (W (i + 1)), bk := DD.nx } δ2 μ2) ∧ (∀ δ μ, W ds.length δ μ → DD.nx δ μ)
theorem simFor {wi : TI} {g : TG} {tb : TS} {di : DI} {dg : DG} {db : DS} (hi : SimI K Z wi di) (hg : SimG K Z g dg) (hb : SimS K Z tb db) : SimS K Z (tFor wi g tb) (dFor di dg db) := fun B hB S μ H σ δ E DD rl lf q => by
  refine hi B hB S μ H σ δ _ _ rl (fun S1 μ1 H1 δ1 J ds G e1 r1 wk q1 => ?_) q
  obtain ⟨W, ⟨δa, μa, w0, la, ma⟩, hG, turn, fin⟩ := q1
  have lo1 : Ex B.L S1 := r1.lo
  refine ⟨fun i m σ H => m = ds.length - i ∧ i ≤ ds.length ∧ ∃ S μ δ, Rel K { B with L := S1 } S μ H σ δ ∧ W i δ μ, ⟨ds.length, by simp, Nat.zero_le _, S1, μa, δa, ((r1.low (Ex.refl S1)).le la).leM ma, w0⟩, ?_⟩
  rintro i m σ2 H2 ⟨rfl, hi, S2, μ2, δ2, r2, w2⟩
  have g2 := hG i δ2 μ2 hi w2
  by_cases hlt : i < ds.length
  · refine .inr ⟨wk.goes S2 μ2 H2 i r2.lo r2.r3 g2 hlt, fun σ' H' => ∃ S μ δ, Rel K { B with L := S1 } S μ H' σ' δ ∧ W (i + 1) δ μ, fun σ' H' ⟨S3, μ3, δ3, r3, w3⟩ => ⟨ds.length - (i + 1), by omega, rfl, hlt, S3, μ3, δ3, r3, w3⟩, fun x H' y => ?_⟩
    have hd : ds[i]? = some ds[i] := by simp [hlt]
    obtain ⟨S3, g3, r3, hx⟩ := wk.yields S2 μ2 H2 i _ x H' r2.lo r2.r3 g2 hd y
    have r3' := r2.grow g3 r3
    refine hg { B with L := S1 } (hB.low r1.lo) S3 μ2 H' σ2 δ2 x _ _ _ r3' hx (fun S4 μ4 H4 σ4 δ4 e4 r4 q4 => ?_) (turn i _ δ2 μ2 hd w2)
    refine hb { B with L := S1 } (hB.low r1.lo) S4 μ4 H4 σ4 δ4 _ { DD with nx := Wn (W (i + 1)), ct := Wn (W (i + 1)), bk := DD.nx } r4 ⟨fun S5 μ5 H5 σ5 δ5 r5 ⟨δ0, μ0, q5, l5, m5⟩ => ⟨S5, μ0, δ0, (r5.le l5).leM m5, q5⟩, fun S5 μ5 H5 v d r5 g5 hv q5 => lf.rt S5 μ5 H5 v d r5 g5 hv q5, fun S5 μ5 H5 σ5 δ5 r5 q5 => lf.nx S5 μ5 H5 σ5 δ5 (r5.low (L := B.L) (lo1.trans r5.lo)) q5, fun S5 μ5 H5 σ5 δ5 r5 ⟨δ0, μ0, q5, l5, m5⟩ => ⟨S5, μ0, δ0, (r5.le l5).leM m5, q5⟩⟩ q4
  · have e : i = ds.length := by omega
    subst e
    exact .inl ⟨wk.stops S2 μ2 H2 r2.lo r2.r3 g2, lf.nx S2 μ2 H2 σ2 δ2 (r2.low (L := B.L) (lo1.trans r2.lo)) (fin δ2 μ2 w2)⟩
theorem s_for {tg iter : Expr} {body : List Stmt} {wi : TI} {g : TG} {tb : TS} {di : DI} {dg : DG} {db : DS} {pos : Pos} (hp : PassesOwn (model X.prog X.w) X.A X.env X.xe) (hc : X.calm = true) (hi : PDI K Z X tg iter wi di) (hg : PDG K Z X tg g dg) (hb : PDSs K Z X body tb db)
    (hs : ∀ x, foldedSetIterable iter X.env x = pure x := by intro _; rfl) : PDS K Z X (.For tg iter body [] pos) (tFor wi g tb) (dFor di dg db) := ⟨ps_for hp hc hi.p hg.p hb.p hs, simFor hi.s hg.s hb.s⟩
/-! what is walked -/
def diSeq (de : DE) : DI := fun δ μ Q => de δ μ fun d δ1 μ1 => ∃ l, (d = .lst l ∨ d = .scr l) ∧ Q l (fun _ => True) δ1 μ1
theorem wk_list {S : Hp} {a : Addr} {vs : List V} {l : List D} (h1 : SqL K S a vs) (h2 : RepL K S l vs) : Wk K S (Itl K a) l (fun _ => True) where
  goes := fun S' μ H i e r _ hi => by
    have hi' : i < vs.length := by rw [RepL.length h2]; exact hi
    exact ⟨vs, vs[i], exr_l r.ex (ex_l e h1), by simp [hi']⟩
  stops := fun S' μ H e r _ => ⟨vs, exr_l r.ex (ex_l e h1), by rw [RepL.length h2]; exact Nat.le_refl _⟩
  yields := fun S' μ H i d x H' e r _ hd y => by
    obtain ⟨rfl, y⟩ := y
    have y := y vs (exr_l r.ex (ex_l e h1))
    obtain ⟨v, e1, hv⟩ := RepL.get h2 hd
    rw [e1] at y
    cases y
    exact ⟨S', Grow.refl, r, Rep.mono e _ _ hv⟩
theorem i_list {tg e : Expr} {te : TE} {de : DE} (h : PD K Z X e te de) (hk : X.K = K := by rfl) : PDI K Z X tg e (iList K te) (diSeq de) := by
  subst hk
  exact ⟨pi_list h.p, fun B hB S μ H σ δ Q QD rl k q => by
  refine h.s B hB S μ H σ δ _ _ rl (fun S1 μ1 H1 δ1 v d e1 r1 hv q1 => ?_) q
  obtain ⟨l, hd, q1⟩ := q1
  obtain ⟨a, vs, rfl, hl, h2⟩ : ∃ a vs, v = .ref a ∧ SqL X.K S1 a vs ∧ RepL X.K S1 l vs := by
    rcases hd with rfl | rfl
    · obtain ⟨a, vs, e, h1, h2⟩ := hv
      exact ⟨a, vs, e, SqL.of h1, h2⟩
    · exact hv
  exact ⟨a, rfl, ⟨vs, exr_l r1.r3.ex hl⟩, k S1 μ1 H1 δ1 _ l _ e1 r1 (wk_list hl h2) q1⟩⟩
def diTup (de : DE) : DI := fun δ μ Q => de δ μ fun d δ1 μ1 => ∃ l, d = .tup l ∧ Q l (fun _ => True) δ1 μ1
theorem wk_tup {S : Hp} {a : Addr} {vs : List V} {l : List D} (h1 : SqT K S a vs) (h2 : RepL K S l vs) : Wk K S (Itt K a) l (fun _ => True) where
  goes := fun S' μ H i e r _ hi => by
    have hi' : i < vs.length := by rw [RepL.length h2]; exact hi
    exact ⟨vs, vs[i], exr_t r.ex (ex_t e h1), by simp [hi']⟩
  stops := fun S' μ H e r _ => ⟨vs, exr_t r.ex (ex_t e h1), by rw [RepL.length h2]; exact Nat.le_refl _⟩
  yields := fun S' μ H i d x H' e r _ hd y => by
    obtain ⟨rfl, y⟩ := y
    have y := y vs (exr_t r.ex (ex_t e h1))
    obtain ⟨v, e1, hv⟩ := RepL.get h2 hd
    rw [e1] at y
    cases y
    exact ⟨S', Grow.refl, r, Rep.mono e _ _ hv⟩
theorem i_tup {tg e : Expr} {te : TE} {de : DE} (h : PD K Z X e te de) (hk : X.K = K := by rfl) : PDI K Z X tg e (iTup K te) (diTup de) := by
  subst hk
  exact ⟨pi_tup h.p, fun B hB S μ H σ δ Q QD rl k q => by
  refine h.s B hB S μ H σ δ _ _ rl (fun S1 μ1 H1 δ1 v d e1 r1 hv q1 => ?_) q
  obtain ⟨l, rfl, q1⟩ := q1
  obtain ⟨a, vs, rfl, hl, h2⟩ := hv
  exact ⟨a, rfl, ⟨vs, exr_t r1.r3.ex (SqT.of hl)⟩, k S1 μ1 H1 δ1 _ l _ e1 r1 (wk_tup (SqT.of hl) h2) q1⟩⟩
def rangeD (lo : Int) (n : Nat) : List D := (List.range n).map fun i => D.int (lo + (i : Nat))
theorem rangeD_len (lo : Int) (n : Nat) : (rangeD lo n).length = n := by unfold rangeD; simp
theorem rangeD_get {lo : Int} {n i : Nat} {d : D} (h : (rangeD lo n)[i]? = some d) : i < n ∧ d = .int (lo + (i : Nat)) := by
  unfold rangeD at h
  rw [List.getElem?_map] at h
  by_cases hi : i < n
  · rw [List.getElem?_range hi] at h
    exact ⟨hi, (Option.some.inj h).symm⟩
  · rw [List.getElem?_eq_none (by simpa using hi)] at h
    cases h
theorem wk_range {S : Hp} {lo : Int} {n : Nat} : Wk K S (Itr lo n) (rangeD lo n) (fun _ => True) where
  goes := fun S' μ H i e r _ hi => by rw [rangeD_len] at hi; exact hi
  stops := fun S' μ H e r _ => by rw [rangeD_len]; exact Nat.le_refl _
  yields := fun S' μ H i d x H' e r _ hd y => by
    obtain ⟨rfl, rfl⟩ := y
    obtain ⟨_, rfl⟩ := rangeD_get hd
    exact ⟨S', Grow.refl, r, rfl⟩
def diRng1 (da : DA) : DI := fun δ μ Q => da δ μ fun xs δ1 μ1 => ∃ j : Int, xs = [.int j] ∧ -(2 ^ 62) ≤ j ∧ j < 2 ^ 62 ∧ Q (rangeD 0 j.toNat) (fun _ => True) δ1 μ1
def diRng2 (da : DA) : DI := fun δ μ Q => da δ μ fun xs δ1 μ1 => ∃ i j : Int, xs = [.int i, .int j] ∧ (-(2 ^ 62) ≤ i ∧ i < 2 ^ 62 ∧ -(2 ^ 62) ≤ j ∧ j < 2 ^ 62) ∧ Q (rangeD i (j - i).toNat) (fun _ => True) δ1 μ1
theorem i_range1 {tg a : Expr} {p pos : Pos} {ta : TA} {da : DA} (hg : Gl X "range") (hm : X.mg "range" = none) (ha : PDA K Z X [a] ta da) (hs : starEach [a] X.env = [(false, eval a X.env)] := by rfl) : PDI K Z X tg (.Call (.Name "range" p) [a] [] pos) (iRng1 ta) (diRng1 da) := ⟨pi_range1 hg hm ha.p hs, fun B hB S μ H σ δ Q QD rl k q => by
  refine ha.s B hB S μ H σ δ _ _ rl (fun S1 μ1 H1 δ1 vs ds e1 r1 hv q1 => ?_) q
  obtain ⟨j, rfl, h1, h2, q1⟩ := q1
  obtain ⟨v, rfl, hw⟩ := RepL.one' hv
  have hw : v = .int j := hw
  subst hw
  exact ⟨j, rfl, h1, h2, k S1 μ1 H1 δ1 _ _ _ e1 r1 wk_range q1⟩⟩
theorem i_range2 {tg a b : Expr} {p pos : Pos} {ta : TA} {da : DA} (hg : Gl X "range") (hm : X.mg "range" = none) (ha : PDA K Z X [a, b] ta da) (hs : starEach [a, b] X.env = [(false, eval a X.env), (false, eval b X.env)] := by rfl) (hs2 : starEach [b] X.env = [(false, eval b X.env)] := by rfl) : PDI K Z X tg (.Call (.Name "range" p) [a, b] [] pos) (iRng2 ta) (diRng2 da) := ⟨pi_range2 hg hm ha.p hs hs2, fun B hB S μ H σ δ Q QD rl k q => by
  refine ha.s B hB S μ H σ δ _ _ rl (fun S1 μ1 H1 δ1 vs ds e1 r1 hv q1 => ?_) q
  obtain ⟨i, j, rfl, h1, q1⟩ := q1
  obtain ⟨v, w, rfl, hx, hw⟩ := RepL.two' hv
  have hx : v = .int i := hx
  have hw : w = .int j := hw
  subst hx hw
  exact ⟨i, j, rfl, h1, k S1 μ1 H1 δ1 _ _ _ e1 r1 wk_range q1⟩⟩
def signs (z : Str) : List D := z.cps.toList.map fun c => D.str ⟨#[c]⟩
def diStr (de : DE) : DI := fun δ μ Q => de δ μ fun d δ1 μ1 => ∃ z, d = .str z ∧ Q (signs z) (fun _ => True) δ1 μ1
theorem signs_len (z : Str) : (signs z).length = z.cps.size := by unfold signs; simp
theorem wk_str {S : Hp} {z : Str} : Wk K S (Its z) (signs z) (fun _ => True) where
  goes := fun S' μ H i e r _ hi => by rw [signs_len] at hi; exact hi
  stops := fun S' μ H e r _ => by rw [signs_len]; exact Nat.le_refl _
  yields := fun S' μ H i d x H' e r _ hd y => by
    obtain ⟨rfl, c, hc, rfl⟩ := y
    unfold signs at hd
    rw [List.getElem?_map, Array.getElem?_toList, hc] at hd
    cases hd
    exact ⟨S', Grow.refl, r, rfl⟩
theorem i_str {tg e : Expr} {te : TE} {de : DE} (h : PD K Z X e te de) : PDI K Z X tg e (iStr te) (diStr de) := ⟨pi_str h.p, fun B hB S μ H σ δ Q QD rl k q => by
  refine h.s B hB S μ H σ δ _ _ rl (fun S1 μ1 H1 δ1 v d e1 r1 hv q1 => ?_) q
  obtain ⟨z, rfl, q1⟩ := q1
  exact ⟨z, hv, k S1 μ1 H1 δ1 _ _ _ e1 r1 wk_str q1⟩⟩
/-! ### comprehensions -/
def wipeD (δ : Ss) : List Nat → Ss
  | [] => δ
  | v :: vs => (wipeD δ vs).set v .no
theorem Rel.wipe {B : Bs} {S : Hp} {μ : Mem} {H : Hp} {σ : L2.St} {δ : Ss} (r : Rel K B S μ H σ δ) : ∀ vs, Rel K B S μ H (L2.wipe σ vs) (wipeD δ vs)
  | [] => r
  | v :: vs => (Rel.wipe r vs).forget
def noOwn (δ : Ss) (vs : List Nat) : Bool := vs.all fun v => match δ[v]? with
  | some (.own _) => false
  | _ => true
theorem noOwn_at {δ : Ss} {vs : List Nat} (h : noOwn δ vs = true) {i : Nat} (hi : i ∈ vs) (m : MO) : δ[i]? ≠ some (.own m) := fun e => by
  have z := List.all_eq_true.mp h i hi
  rw [e] at z
  cases z
theorem wipeD_at {δ : Ss} {i : Nat} : ∀ {vs : List Nat}, i ∉ vs → (wipeD δ vs)[i]? = δ[i]?
  | [], _ => rfl
  | v :: vs, h => by
    unfold wipeD
    rw [List.getElem?_set_ne (fun e => h (by rw [e]; exact List.mem_cons_self))]
    exact wipeD_at (fun e => h (List.mem_cons_of_mem _ e))
theorem wipe_at {σ : L2.St} {i : Nat} : ∀ {vs : List Nat}, i ∉ vs → (L2.wipe σ vs)[i]? = σ[i]?
  | [], _ => rfl
  | v :: vs, h => by
    unfold L2.wipe
    rw [List.getElem?_set_ne (fun e => h (by rw [e]; exact List.mem_cons_self))]
    exact wipe_at (fun e => h (List.mem_cons_of_mem _ e))
/-- the slots behind a block: those that it may have used are as they were -/
theorem Rel.unwipe {B : Bs} {S S' : Hp} {μ μ' : Mem} {H H' : Hp} {σ σ2 : L2.St} {δ δ2 : Ss} {vs : List Nat} (r : Rel K B S μ H σ δ) (hn : noOwn δ vs = true) (e : Ex S S') (r2 : Rel K B S' μ' H' σ2 δ2) (hσ : L2.wipe σ2 vs = L2.wipe σ vs) (hδ : wipeD δ2 vs = wipeD δ vs) : Rel K B S' μ' H' σ δ := by
  refine ⟨r2.r3, r2.gr, r2.lo, fun i s q => ?_, r.dj, r2.fr, r.fd⟩
  obtain ⟨x, e1, h1⟩ := r.sl i s q
  refine ⟨x, e1, ?_⟩
  cases s with
  | no => trivial
  | val d =>
    obtain ⟨v, z1, z2⟩ := h1
    exact ⟨v, z1, Rep.mono e d v z2⟩
  | own m =>
    have hi : i ∉ vs := fun h => noOwn_at hn h m q
    have q2 : δ2[i]? = some (.own m) := by rw [← wipeD_at (δ := δ2) hi, hδ, wipeD_at hi]; exact q
    obtain ⟨x2, e2, h2⟩ := r2.sl i _ q2
    have e3 : σ2[i]? = σ[i]? := by rw [← wipe_at (σ := σ2) hi, hσ, wipe_at hi]
    rw [e3, e1] at e2
    cases e2
    exact h2
theorem Fresh.grow {B : Bs} {S S' : Hp} {μ μ' : Mem} {H H' : Hp} {σ : L2.St} {δ : Ss} {p : Addr} {o : HO} (f : Fresh B S μ H σ δ p o) (g : Grow S μ H S' μ' H') (ho : notTbl o := by exact fun _ z => nomatch z) : Fresh B S' μ' H' σ δ p o := by
  refine ⟨f.b, ?_, ?_, g.kp p o f.h f.m (fun sa z => by rw [f.s] at z; cases z) ho, f.d, f.f⟩
  · cases q : S' p with
    | none => rfl
    | some u =>
      rcases g.st p u q with z | z | z
      · rw [f.s] at z; cases z
      · rw [f.h] at z; cases z
      · rw [f.m] at z; cases z
  · cases q : μ' p with
    | none => rfl
    | some u =>
      rcases g.me p u q with z | z
      · rw [f.m] at z; cases z
      · rw [f.h] at z; cases z
def fLc (di : DI) (dg : DG) (dt : DT) (de : DE) (vs : List Nat) : DF := fun δ μ Q => di δ μ fun ds G δ1 μ1 => noOwn δ1 vs = true ∧ ∃ W : Nat → List D → Mem → Prop, W 0 [] μ1 ∧ (∀ i acc μ, i ≤ ds.length → W i acc μ → G μ) ∧
  (∀ i d acc μ, ds[i]? = some d → W i acc μ → dg d (wipeD δ1 vs) μ fun δ2 μ2 => wipeD δ2 vs = wipeD δ1 vs ∧ dt δ2 μ2 fun b δ3 μ3 => δ3 = δ2 ∧
    if b = true then de δ2 μ3 fun y δ4 μ4 => δ4 = δ2 ∧ acc.length < sizeLine ∧ W (i + 1) (acc ++ [y]) μ4 else W (i + 1) acc μ3) ∧ (∀ acc μ, W ds.length acc μ → Q (.lst acc) δ1 μ)
/-- the target of a block stores into its own slots alone -/
def GOwn (g : TG) (vs : List Nat) : Prop := ∀ (v : V) (σ : L2.St) (H : Hp) (Q : L2.St → Hp → Prop), g v σ H (fun σ2 H2 => L2.wipe σ2 vs = L2.wipe σ vs → Q σ2 H2) → g v σ H fun σ2 H2 => L2.wipe σ2 vs = L2.wipe σ vs ∧ Q σ2 H2
def GOwns (g : TGs) (vs : List Nat) : Prop := ∀ (v : List V) (σ : L2.St) (H : Hp) (Q : L2.St → Hp → Prop), g v σ H (fun σ2 H2 => L2.wipe σ2 vs = L2.wipe σ vs → Q σ2 H2) → g v σ H fun σ2 H2 => L2.wipe σ2 vs = L2.wipe σ vs ∧ Q σ2 H2
theorem wipe_set {σ : L2.St} {x : Option V} : ∀ {vs : List Nat} {i : Nat}, i ∈ vs → L2.wipe (σ.set i x) vs = L2.wipe σ vs
  | [], i, h => by cases h
  | v :: vs, i, h => by
    unfold L2.wipe
    by_cases hi : i ∈ vs
    · rw [wipe_set hi]
    · have e : i = v := by
        rcases List.mem_cons.mp h with e | e
        · exact e
        · exact absurd e hi
      subst e
      have z : ∀ (vs : List Nat) (τ : L2.St), i ∉ vs → (L2.wipe (τ.set i x) vs).set i none = (L2.wipe τ vs).set i none := fun vs => by
        induction vs with
        | nil => intro τ _; show (τ.set i x).set i none = τ.set i none; rw [List.set_set]
        | cons w ws ih =>
          intro τ hn
          have h1 : i ≠ w := fun e => hn (by rw [e]; exact List.mem_cons_self)
          have h2 : i ∉ ws := fun e => hn (List.mem_cons_of_mem _ e)
          show ((L2.wipe (τ.set i x) ws).set w none).set i none = ((L2.wipe τ ws).set w none).set i none
          rw [List.set_comm _ _ h1.symm, ih τ h2, List.set_comm _ _ h1]
      exact z vs σ hi
theorem go_name {i : Nat} {vs : List Nat} (h : i ∈ vs) : GOwn (gName i) vs := fun v σ H Q q => ⟨wipe_set h, q (wipe_set h)⟩
theorem gos_nil {vs : List Nat} : GOwns gNil vs := fun v σ H Q q => ⟨q.1, rfl, q.2 rfl⟩
theorem gos_cons {t : TG} {u : TGs} {vs : List Nat} (h1 : GOwn t vs) (h2 : GOwns u vs) (m1 : ∀ v σ H Q Q', (∀ σ H, Q σ H → Q' σ H) → t v σ H Q → t v σ H Q') (m2 : ∀ v σ H Q Q', (∀ σ H, Q σ H → Q' σ H) → u v σ H Q → u v σ H Q') : GOwns (gCons t u) vs := fun v σ H Q q => by
  obtain ⟨x, r, e, q⟩ := q
  refine ⟨x, r, e, ?_⟩
  have z := h1 x σ H (fun σ1 H1 => u r σ1 H1 fun σ2 H2 => L2.wipe σ2 vs = L2.wipe σ vs → Q σ2 H2) (m1 x σ H _ _ (fun σ1 H1 q _ => q) q)
  refine m1 x σ H _ _ (fun σ1 H1 ⟨e1, q1⟩ => ?_) z
  have y := h2 r σ1 H1 (fun σ2 H2 => L2.wipe σ2 vs = L2.wipe σ vs → Q σ2 H2) (m2 r σ1 H1 _ _ (fun _ _ q _ => q) q1)
  exact m2 r σ1 H1 _ _ (fun σ2 H2 ⟨e2, q2⟩ => ⟨e2.trans e1, q2 (e2.trans e1)⟩) y
theorem gm_name {i : Nat} : ∀ v σ H Q Q', (∀ σ H, Q σ H → Q' σ H) → gName i v σ H Q → gName i v σ H Q' := fun _ _ _ _ _ k q => k _ _ q
theorem gms_nil : ∀ v σ H Q Q', (∀ σ H, Q σ H → Q' σ H) → gNil v σ H Q → gNil v σ H Q' := fun _ _ _ _ _ k q => ⟨q.1, k _ _ q.2⟩
theorem gms_cons {t : TG} {u : TGs} (m1 : ∀ v σ H Q Q', (∀ σ H, Q σ H → Q' σ H) → t v σ H Q → t v σ H Q') (m2 : ∀ v σ H Q Q', (∀ σ H, Q σ H → Q' σ H) → u v σ H Q → u v σ H Q') : ∀ v σ H Q Q', (∀ σ H, Q σ H → Q' σ H) → gCons t u v σ H Q → gCons t u v σ H Q' := fun v σ H Q Q' k q => by
  obtain ⟨x, r, e, q⟩ := q
  exact ⟨x, r, e, m1 _ _ _ _ _ (fun σ1 H1 q1 => m2 _ _ _ _ _ k q1) q⟩
theorem gm_tup {n : Nat} {t : TGs} (m : ∀ v σ H Q Q', (∀ σ H, Q σ H → Q' σ H) → t v σ H Q → t v σ H Q') : ∀ v σ H Q Q', (∀ σ H, Q σ H → Q' σ H) → gTup K n t v σ H Q → gTup K n t v σ H Q' := fun v σ H Q Q' k q => by
  obtain ⟨a, xs, e, h1, h2, q⟩ := q
  exact ⟨a, xs, e, h1, h2, m _ _ _ _ _ k q⟩
theorem go_tup {n : Nat} {t : TGs} {vs : List Nat} (h : GOwns t vs) : GOwn (gTup K n t) vs := fun v σ H Q q => by
  obtain ⟨a, xs, e, h1, h2, q⟩ := q
  exact ⟨a, xs, e, h1, h2, h _ _ _ _ q⟩
theorem wipe_wipe (σ : L2.St) : ∀ vs : List Nat, L2.wipe (L2.wipe σ vs) vs = L2.wipe σ vs := fun vs => by
  have z : ∀ (ws : List Nat) (τ : L2.St), (∀ i ∈ ws, i ∈ vs) → L2.wipe (L2.wipe τ ws) vs = L2.wipe τ vs := fun ws => by
    induction ws with
    | nil => intro τ _; rfl
    | cons w ws ih =>
      intro τ h
      show L2.wipe ((L2.wipe τ ws).set w none) vs = L2.wipe τ vs
      rw [wipe_set (h w List.mem_cons_self)]
      exact ih τ fun i hi => h i (List.mem_cons_of_mem _ hi)
  exact z vs σ fun _ h => h
theorem simFLc {wi : TI} {g : TG} {tt : TT} {te : TE} {vs : List Nat} {di : DI} {dg : DG} {dt : DT} {de : DE} (hi : SimI K Z wi di) (ho : GOwn g vs) (hg : SimG K Z g dg) (ht : SimT K Z tt dt) (he : SimE K Z te de) : SimF K Z (tLc wi g tt te vs) (fLc di dg dt de vs) := fun B hB S μ H σ δ Q QF rl k q => by
  refine hi B hB S μ H σ δ _ _ rl (fun S1 μ1 H1 δ1 J ds G e1 r1 wk q1 => ?_) q
  obtain ⟨hn, W, w0, hG, turn, fin⟩ := q1
  have lo1 : Ex B.L S1 := r1.lo
  intro A hA
  obtain ⟨r1', f1⟩ := r1.fresh (o := .lst []) hA
  have hF : B.F A = none := f1.f
  refine ⟨fun i m H => m = ds.length - i ∧ i ≤ ds.length ∧ ∃ S μ acc ws, Ex S1 S ∧ Rel K B S μ H σ δ1 ∧ Fresh B S μ H σ δ1 A (.lst ws) ∧ RepL K S acc ws ∧ W i acc μ, ⟨ds.length, by simp, Nat.zero_le _, S1, μ1, [], [], Ex.refl S1, r1', f1, rfl, w0⟩, ?_⟩
  rintro i m H2 ⟨rfl, hi, S2, μ2, acc, ws, e2, r2, f2, ha, w2⟩
  have g2 := hG i acc μ2 hi w2
  by_cases hlt : i < ds.length
  · refine .inr ⟨wk.goes S2 μ2 H2 i e2 r2.r3 g2 hlt, fun H' => ∃ S μ acc ws, Ex S1 S ∧ Rel K B S μ H' σ δ1 ∧ Fresh B S μ H' σ δ1 A (.lst ws) ∧ RepL K S acc ws ∧ W (i + 1) acc μ, fun H' z => ⟨ds.length - (i + 1), by omega, rfl, hlt, z⟩, fun x H' y => ?_⟩
    have hd : ds[i]? = some ds[i] := by simp [hlt]
    obtain ⟨S3, g3, r3, hx⟩ := wk.yields S2 μ2 H2 i _ x H' e2 r2.r3 g2 hd y
    have r3' := r2.grow g3 r3
    have f3 := f2.grow g3
    have ha3 := RepL.mono g3.ex _ _ ha
    have r4 : Rel K { B with F := updF B.F A (.lst acc) } S3 μ2 H' σ δ1 := r3'.aside f3 (m := .lst acc) ⟨ws, rfl, ha3⟩
    have tr := turn i _ acc μ2 hd w2
    have ww : L2.wipe (L2.wipe σ vs) vs = L2.wipe σ vs := wipe_wipe σ vs
    have gg := ho x (L2.wipe σ vs) H' (fun σ2 H2 => tt σ2 H2 fun b H3 => if b = true then te σ2 H3 fun y H4 => ∃ acc, H4 A = some (.lst acc) ∧ acc.length < sizeLine ∧
        (fun H' => ∃ S μ acc ws, Ex S1 S ∧ Rel K B S μ H' σ δ1 ∧ Fresh B S μ H' σ δ1 A (.lst ws) ∧ RepL K S acc ws ∧ W (i + 1) acc μ) (upd H4 A (.lst (acc ++ [y]))) else (fun H' => ∃ S μ acc ws, Ex S1 S ∧ Rel K B S μ H' σ δ1 ∧ Fresh B S μ H' σ δ1 A (.lst ws) ∧ RepL K S acc ws ∧ W (i + 1) acc μ) H3) ?_
    · rw [ww] at gg
      exact gg
    · refine hg { B with F := updF B.F A (.lst acc) } (hB.aside f3.f) S3 μ2 H' (L2.wipe σ vs) (wipeD δ1 vs) x _ _ _ (r4.wipe vs) hx (fun S4 μ4 H4 σ4 δ4 e4 r4' q4 hσ => ?_) tr
      rw [ww] at hσ
      obtain ⟨hδ, q4⟩ := q4
      refine ht { B with F := updF B.F A (.lst acc) } (hB.aside f3.f) S4 μ4 H4 σ4 δ4 _ _ r4' (fun S5 μ5 H5 δ5 b e5 r5 q5 => ?_) q4
      obtain ⟨rfl, q5⟩ := q5
      cases b with
      | false =>
        rw [if_neg Bool.false_ne_true] at q5 ⊢
        have r6 := r4.unwipe hn (e4.trans e5) r5 hσ hδ
        obtain ⟨r7, o, f7, h7⟩ := r6.again hF
        obtain ⟨ws', rfl, h7⟩ := h7
        exact ⟨S5, μ5, acc, ws', ((e2.trans g3.ex).trans e4).trans e5, r7, f7, h7, q5⟩
      | true =>
        rw [if_pos rfl] at q5 ⊢
        refine he { B with F := updF B.F A (.lst acc) } (hB.aside f3.f) S5 μ5 H5 σ4 δ5 _ _ r5 (fun S6 μ6 H6 δ6 v d e6 r6 hv q6 => ?_) q5
        obtain ⟨rfl, hl, w6⟩ := q6
        have r7 := r4.unwipe hn ((e4.trans e5).trans e6) r6 hσ hδ
        obtain ⟨r8, o, f8, h8⟩ := r7.again hF
        obtain ⟨ws', rfl, h8⟩ := h8
        obtain ⟨r9, f9⟩ := r8.writeF f8 (o' := .lst (ws' ++ [v])) trivial
        exact ⟨ws', f8.h, by rw [RepL.length h8]; exact hl, S6, μ6, acc ++ [d], ws' ++ [v], (((e2.trans g3.ex).trans e4).trans e5).trans e6, r9, f9, RepL.append h8 (RepL.one hv), w6⟩
  · have e : i = ds.length := by omega
    subst e
    exact .inl ⟨wk.stops S2 μ2 H2 e2 r2.r3 g2, k S2 μ2 H2 δ1 A _ (.lst acc) (e1.trans e2) r2 f2 ⟨ws, rfl, ha⟩ (fin acc μ2 w2)⟩
structure PDTs (K : PySem.W.Frag) (Z : Bs) (X : Cx) (ifs : List Expr) (t : TT) (d : DT) : Prop where
  p : PTs X ifs t
  s : SimT K Z t d
def dYes : DT := fun δ μ Q => Q true δ μ
theorem ts_nil : PDTs K Z X [] tYes dYes := ⟨pts_nil, fun B hB S μ H σ δ Q QD rl k q => k S μ H δ _ (Ex.refl S) rl q⟩
theorem ts_one {c : Expr} {t : TT} {d : DT} (h : PDT K Z X c t d) : PDTs K Z X [c] t d := ⟨pts_one h.p, h.s⟩
theorem f_lc {elt tg iter : Expr} {ifs : List Expr} {scope : Scope} {own : List (Str × Nat)} {pos : Pos} {wi : TI} {g : TG} {tt : TT} {te : TE} {di : DI} {dg : DG} {dt : DT} {de : DE} (hc : X.calm = true) (hN : X.N.Nodup) (ho : GOwn g (own.map (·.2))) (hi : PDI K Z X tg iter wi di) (ok : BlkOk X.N X.env.scope scope own)
    (hg : ∀ (s : Shared) (H : Hp) (C : Addr) (cl : List (Str × Addr)) (fp : List Addr), PDG K Z (X.blk s H scope (compEnvC scope cl C X.env) fp) tg g dg) (ht : ∀ (s : Shared) (H : Hp) (C : Addr) (cl : List (Str × Addr)) (fp : List Addr), PDTs K Z (X.blk s H scope (compEnvC scope cl C X.env) fp) ifs tt dt)
    (he : ∀ (s : Shared) (H : Hp) (C : Addr) (cl : List (Str × Addr)) (fp : List Addr), PD K Z (X.blk s H scope (compEnvC scope cl C X.env) fp) elt te de) (hs : ∀ x, foldedSetIterable iter X.env x = pure x := by intro _; rfl) :
    PDF K Z X (.ListComp elt [⟨tg, iter, ifs, 0⟩] scope pos) (tLc wi g tt te (own.map (·.2))) (fLc di dg dt de (own.map (·.2))) :=
  ⟨pe_lc hc hN hi.p ok (fun s H C cl fp => (hg s H C cl fp).p) (fun s H C cl fp => (ht s H C cl fp).p) (fun s H C cl fp => (he s H C cl fp).p) hs, by
    let s0 : Shared := X.s_0
    exact simFLc hi.s ho (hg s0 X.H_0 0 [] []).s (ht s0 X.H_0 0 [] []).s (he s0 X.H_0 0 [] []).s⟩
/-- y = [..] -/
theorem s_lc {i : Nat} {y : Str} {py : Pos} {elt tg iter : Expr} {ifs : List Expr} {scope : Scope} {own : List (Str × Nat)} {pos spos : Pos} {wi : TI} {g : TG} {tt : TT} {te : TE} {di : DI} {dg : DG} {dt : DT} {de : DE} (hc : X.calm = true) (hN : X.N.Nodup) (ho : GOwn g (own.map (·.2))) (hy : X.N[i]? = some y) (hyl : X.env.scope.names.lookup y = some .local)
    (hsw : swapsWith (.ListComp elt [⟨tg, iter, ifs, 0⟩] scope pos) (some (.Name y py)) spos.line X.env = pure true) (hi : PDI K Z X tg iter wi di) (ok : BlkOk X.N X.env.scope scope own)
    (hg : ∀ (s : Shared) (H : Hp) (C : Addr) (cl : List (Str × Addr)) (fp : List Addr), PDG K Z (X.blk s H scope (compEnvC scope cl C X.env) fp) tg g dg) (ht : ∀ (s : Shared) (H : Hp) (C : Addr) (cl : List (Str × Addr)) (fp : List Addr), PDTs K Z (X.blk s H scope (compEnvC scope cl C X.env) fp) ifs tt dt)
    (he : ∀ (s : Shared) (H : Hp) (C : Addr) (cl : List (Str × Addr)) (fp : List Addr), PD K Z (X.blk s H scope (compEnvC scope cl C X.env) fp) elt te de) (hs : ∀ x, foldedSetIterable iter X.env x = pure x := by intro _; rfl) :
    PDS K Z X (.Assign [.Name y py] (.ListComp elt [⟨tg, iter, ifs, 0⟩] scope pos) spos) (tAsg (tLc wi g tt te (own.map (·.2))) (gName i)) (dSet i (dIce (fLc di dg dt de (own.map (·.2))))) :=
  ⟨ps_setLc hc hN hy hyl hsw hi.p ok (fun s H C cl fp => (hg s H C cl fp).p) (fun s H C cl fp => (ht s H C cl fp).p) (fun s H C cl fp => (he s H C cl fp).p) hs, by
    let s0 : Shared := X.s_0
    exact simAsg (simIce (simFLc hi.s ho (hg s0 X.H_0 0 [] []).s (ht s0 X.H_0 0 [] []).s (he s0 X.H_0 0 [] []).s)) simGName⟩
/-- the same, a list that is then changed -/
theorem s_lcO {i : Nat} {y : Str} {py : Pos} {elt tg iter : Expr} {ifs : List Expr} {scope : Scope} {own : List (Str × Nat)} {pos spos : Pos} {wi : TI} {g : TG} {tt : TT} {te : TE} {di : DI} {dg : DG} {dt : DT} {de : DE} (hc : X.calm = true) (hN : X.N.Nodup) (ho : GOwn g (own.map (·.2))) (hy : X.N[i]? = some y) (hyl : X.env.scope.names.lookup y = some .local)
    (hsw : swapsWith (.ListComp elt [⟨tg, iter, ifs, 0⟩] scope pos) (some (.Name y py)) spos.line X.env = pure true) (hi : PDI K Z X tg iter wi di) (ok : BlkOk X.N X.env.scope scope own)
    (hg : ∀ (s : Shared) (H : Hp) (C : Addr) (cl : List (Str × Addr)) (fp : List Addr), PDG K Z (X.blk s H scope (compEnvC scope cl C X.env) fp) tg g dg) (ht : ∀ (s : Shared) (H : Hp) (C : Addr) (cl : List (Str × Addr)) (fp : List Addr), PDTs K Z (X.blk s H scope (compEnvC scope cl C X.env) fp) ifs tt dt)
    (he : ∀ (s : Shared) (H : Hp) (C : Addr) (cl : List (Str × Addr)) (fp : List Addr), PD K Z (X.blk s H scope (compEnvC scope cl C X.env) fp) elt te de) (hs : ∀ x, foldedSetIterable iter X.env x = pure x := by intro _; rfl) :
    PDS K Z X (.Assign [.Name y py] (.ListComp elt [⟨tg, iter, ifs, 0⟩] scope pos) spos) (tAsg (tLc wi g tt te (own.map (·.2))) (gName i)) (dOwn i (fLc di dg dt de (own.map (·.2)))) :=
  ⟨ps_setLc hc hN hy hyl hsw hi.p ok (fun s H C cl fp => (hg s H C cl fp).p) (fun s H C cl fp => (ht s H C cl fp).p) (fun s H C cl fp => (he s H C cl fp).p) hs, by
    let s0 : Shared := X.s_0
    exact simOwn (simFLc hi.s ho (hg s0 X.H_0 0 [] []).s (ht s0 X.H_0 0 [] []).s (he s0 X.H_0 0 [] []).s)⟩
/-! ### defs -/
abbrev DSp := List D → Mem → QM → DX → Prop
def XRep (K : PySem.W.Frag) (S H : Hp) : XF → Option Addr → Prop
  | none, d => d = none
  | some fs, d => ∃ a vs, d = some a ∧ S a = some (.xd vs) ∧ RepF K S fs vs
def up (K : PySem.W.Frag) (dsp : DSp) : Sp := fun vs H Q E => ∃ S μ ds QD ED, R3 K S μ H ∧ RepL K S ds vs ∧ dsp ds μ QD ED ∧
  (∀ S' μ' H' v d, Grow S μ H S' μ' H' → R3 K S' μ' H' → Rep K S' d v → QD d μ' → Q v H') ∧
  (∀ S' μ' H' c fs a, Grow S μ H S' μ' H' → R3 K S' μ' H' → XRep K S' H' fs a → ED c fs μ' → E (.ref (He.ga K c)) a H')
abbrev X0 : DX := fun _ _ _ => False
theorem start_rel {S : Hp} {μ : Mem} {H : Hp} {N : List Str} {vs : List V} {ds : List D} (r : R3 K S μ H) (h : RepL K S ds vs) : Rel K ⟨S, μ, H, S, fun _ => none⟩ S μ H (start N vs) (ds.map SL.val ++ List.replicate (N.length - ds.length) SL.no) := by
  have el := RepL.length h
  refine ⟨r, Grow.refl, Ex.refl S, fun i s e => ?_, fun i j m n _ e _ => ?_, (fun _ _ e => nomatch e), fun i m p e _ => ?_⟩
  · by_cases hi : i < ds.length
    · rw [List.getElem?_append_left (by simpa using hi), List.getElem?_map, List.getElem?_eq_getElem hi] at e
      cases e
      obtain ⟨v, e1, h1⟩ := RepL.get h (List.getElem?_eq_getElem hi)
      refine ⟨some v, ?_, v, rfl, h1⟩
      show (vs.map some ++ List.replicate (N.length - vs.length) none)[i]? = _
      rw [List.getElem?_append_left (by simpa [el] using hi), List.getElem?_map, e1]
      rfl
    · rw [List.getElem?_append_right (by simpa using hi), List.getElem?_replicate] at e
      split at e
      · rename_i hlt
        cases e
        refine ⟨none, ?_, trivial⟩
        show (vs.map some ++ List.replicate (N.length - vs.length) none)[i]? = _
        rw [List.getElem?_append_right (by simp [el]; omega), List.getElem?_replicate, if_pos (by simp [el] at hlt ⊢; exact hlt)]
      · cases e
  · exfalso
    by_cases hi : i < ds.length
    · rw [List.getElem?_append_left (by simpa using hi), List.getElem?_map, List.getElem?_eq_getElem hi] at e
      cases e
    · rw [List.getElem?_append_right (by simpa using hi), List.getElem?_replicate] at e
      split at e <;> cases e
  · exfalso
    by_cases hi : i < ds.length
    · rw [List.getElem?_append_left (by simpa using hi), List.getElem?_map, List.getElem?_eq_getElem hi] at e
      cases e
    · rw [List.getElem?_append_right (by simpa using hi), List.getElem?_replicate] at e
      split at e <;> cases e
def startD (n : Nat) (ds : List D) : Ss := ds.map SL.val ++ List.replicate (n - ds.length) SL.no
end Dl

namespace Dl
open PySem PySem.Spec PyProof.Rows L2
variable {X : Cx} {K : PySem.W.Frag} {Z : Bs}
/-! ### more expressions -/
theorem t_valP {e : Expr} {te : TE} {de : DE} (h : PD K Z X e te de) (he : ∀ whole, isTrue e X.env whole = (do let v ← whole; standAt e.pos; holding [v] (truthy v)) := by intro _; rfl) : PDT K Z X e (tB te) (dTest de) := ⟨pt_val h.p he, simB h.s⟩
def dNeg (da : DE) : DE := fun δ μ Q => da δ μ fun x δ1 μ1 => ∃ i, x = .int i ∧ Q (.int (-i)) δ1 μ1
theorem d_neg {a : Expr} {ta : TE} {da : DE} {pos} (h : PD K Z X a ta da) : PD K Z X (.UnaryOp .USub a pos) (tUn (rU fun i => .int (-i)) ta) (dNeg da) := ⟨pe_un un_neg h.p, fun B hB S μ H σ δ Q QD rl k q => by
  refine h.s B hB S μ H σ δ _ _ rl (fun S1 μ1 H1 δ1 x dx e1 r1 hx q1 => ?_) q
  obtain ⟨i, rfl, q1⟩ := q1
  exact ⟨i, hx, k S1 μ1 H1 δ1 _ (.int (-i)) e1 r1 rfl q1⟩⟩
/-- x in a list or tuple of plain values -/
def flatD : D → Bool
  | .non => true
  | .bl _ => true
  | .int _ => true
  | .str _ => true
  | _ => false
def vOf : D → V
  | .bl b => .bl b
  | .int b => .int b
  | .str b => .str b
  | _ => .non
theorem flat_v {S : Hp} {d : D} {v : V} (h : Rep K S d v) (f : flatD d = true) : v = vOf d ∧ flatV v = true := by
  cases d with
  | non => have h : v = .non := h; subst h; exact ⟨rfl, rfl⟩
  | bl b => have h : v = .bl b := h; subst h; exact ⟨rfl, rfl⟩
  | int b => have h : v = .int b := h; subst h; exact ⟨rfl, rfl⟩
  | str b => have h : v = .str b := h; subst h; exact ⟨rfl, rfl⟩
  | _ => cases f
theorem flat_vs {S : Hp} : ∀ {l : List D} {vs : List V}, RepL K S l vs → l.all flatD = true → vs = l.map vOf ∧ vs.all flatV = true
  | [], vs, h, _ => by have h : vs = [] := h; subst h; exact ⟨rfl, rfl⟩
  | d :: l, vs, h, f => by
    obtain ⟨v, r, rfl, h1, h2⟩ := h
    rw [List.all_cons, Bool.and_eq_true] at f
    obtain ⟨e1, f1⟩ := flat_v h1 f.1
    obtain ⟨e2, f2⟩ := flat_vs h2 f.2
    exact ⟨by rw [e1, e2]; rfl, by rw [List.all_cons, f1, f2]; rfl⟩
def inD (x : D) (l : List D) : Bool := inV (vOf x) (l.map vOf)
def rdIn (neg : Bool) : DR := fun x y μ Q => ∃ l, seqOf μ y = some l ∧ flatD x = true ∧ l.all flatD = true ∧ Q (.bl (if neg then !inD x l else inD x l)) μ
theorem sim_in {neg : Bool} : SimR K (rIn K neg) (rdIn neg) := fun S μ H x y dx dy Q QD r hx hy k q => by
  obtain ⟨l, e, f1, f2, q⟩ := q
  obtain ⟨a, vs, rfl, hs, h2⟩ := seq_is r hy e
  obtain ⟨e1, g1⟩ := flat_v hx f1
  obtain ⟨e2, g2⟩ := flat_vs h2 f2
  exact ⟨a, vs, rfl, hs, g1, g2, k S μ H _ (.bl (if neg then !inD dx l else inD dx l)) Grow.refl r (by rw [e1, e2]; rfl) q⟩
theorem o_in (hk : X.K = K := by rfl) : PDOp K X (compareOp .In) (rIn K false) (rdIn false) := by
  subst hk
  exact ⟨op_in_seq, sim_in⟩
theorem o_notIn (hk : X.K = K := by rfl) : PDOp K X (compareOp .NotIn) (rIn K true) (rdIn true) := by
  subst hk
  exact ⟨op_notIn_seq, sim_in⟩
/-! ### looks at a slot's own list -/
def dInO (neg : Bool) (da : DE) (i : Nat) : DE := fun δ μ Q => da δ μ fun x δ1 μ1 => ∃ l, δ1[i]? = some (.own (.lst l)) ∧ flatD x = true ∧ l.all flatD = true ∧ Q (.bl (if neg then !inD x l else inD x l)) δ1 μ1
theorem simInO {neg : Bool} {ta : TE} {da : DE} {i : Nat} (h : SimE K Z ta da) : SimE K Z (tOp (rIn K neg) ta (tVar i)) (dInO neg da i) := fun B hB S μ H σ δ Q QD rl k q => by
  refine h B hB S μ H σ δ _ _ rl (fun S1 μ1 H1 δ1 x dx e1 r1 hx q1 => ?_) q
  obtain ⟨l, e, f1, f2, q1⟩ := q1
  obtain ⟨p, o, e2, h2, vs, rfl, h3⟩ := r1.ownAt e
  obtain ⟨z1, g1⟩ := flat_v hx f1
  obtain ⟨z2, g2⟩ := flat_vs h3 f2
  exact ⟨.ref p, e2, p, vs, rfl, .inl (SqL.of h2), g1, g2, k S1 μ1 H1 δ1 _ (.bl (if neg then !inD dx l else inD dx l)) e1 r1 (by rw [z1, z2]; rfl) q1⟩
theorem d_inO {a : Expr} {x : Str} {p pos : Pos} {ta : TE} {da : DE} (i : Nat) (ha : PD K Z X a ta da) (hN : X.N[i]? = some x := by rfl) (hv : Vis X.env.scope x := by first | exact Or.inl rfl | exact Or.inr (Or.inl rfl) | exact Or.inr (Or.inr rfl)) (hd : (x == ("__debug__" : Str)) = false := by decide) (hcd : (x == ("__classdict__" : Str)) = false := by decide) (hm : behindInMarks .In (.Name x p) = false := by rfl) (hk : X.K = K := by rfl) :
    PD K Z X (.Compare a [.In] [.Name x p] pos) (tOp (rIn K false) ta (tVar i)) (dInO false da i) := by
  subst hk
  exact ⟨pe_cmpR op_in_seq ha.p (pe_var hN hv hd hcd) hm, simInO ha.s⟩
theorem d_notInO {a : Expr} {x : Str} {p pos : Pos} {ta : TE} {da : DE} (i : Nat) (ha : PD K Z X a ta da) (hN : X.N[i]? = some x := by rfl) (hv : Vis X.env.scope x := by first | exact Or.inl rfl | exact Or.inr (Or.inl rfl) | exact Or.inr (Or.inr rfl)) (hd : (x == ("__debug__" : Str)) = false := by decide) (hcd : (x == ("__classdict__" : Str)) = false := by decide) (hm : behindInMarks .NotIn (.Name x p) = false := by rfl) (hk : X.K = K := by rfl) :
    PD K Z X (.Compare a [.NotIn] [.Name x p] pos) (tOp (rIn K true) ta (tVar i)) (dInO true da i) := by
  subst hk
  exact ⟨pe_cmpR op_notIn_seq ha.p (pe_var hN hv hd hcd) hm, simInO ha.s⟩
theorem t_inO {a : Expr} {x : Str} {p pos : Pos} {ta : TE} {da : DE} (i : Nat) (ha : PD K Z X a ta da) (hN : X.N[i]? = some x := by rfl) (hv : Vis X.env.scope x := by first | exact Or.inl rfl | exact Or.inr (Or.inl rfl) | exact Or.inr (Or.inr rfl)) (hd : (x == ("__debug__" : Str)) = false := by decide) (hcd : (x == ("__classdict__" : Str)) = false := by decide) (hm : behindInMarks .In (.Name x p) = false := by rfl) (hk : X.K = K := by rfl) :
    PDT K Z X (.Compare a [.In] [.Name x p] pos) (tTest (tOp (rIn K false) ta (tVar i))) (dTest (dInO false da i)) := by
  subst hk
  exact ⟨pt_cmpR op_in_seq ha.p (pe_var hN hv hd hcd) hm, simTest (simInO ha.s)⟩
theorem t_notInO {a : Expr} {x : Str} {p pos : Pos} {ta : TE} {da : DE} (i : Nat) (ha : PD K Z X a ta da) (hN : X.N[i]? = some x := by rfl) (hv : Vis X.env.scope x := by first | exact Or.inl rfl | exact Or.inr (Or.inl rfl) | exact Or.inr (Or.inr rfl)) (hd : (x == ("__debug__" : Str)) = false := by decide) (hcd : (x == ("__classdict__" : Str)) = false := by decide) (hm : behindInMarks .NotIn (.Name x p) = false := by rfl) (hk : X.K = K := by rfl) :
    PDT K Z X (.Compare a [.NotIn] [.Name x p] pos) (tTest (tOp (rIn K true) ta (tVar i))) (dTest (dInO true da i)) := by
  subst hk
  exact ⟨pt_cmpR op_notIn_seq ha.p (pe_var hN hv hd hcd) hm, simTest (simInO ha.s)⟩
def dIxO (i : Nat) (db : DE) : DE := fun δ μ Q => (∃ m, δ[i]? = some (.own m)) ∧ db δ μ fun y δ1 μ1 => ∃ l j d, δ1[i]? = some (.own (.lst l)) ∧ y = .int j ∧ atI l j = some d ∧ Q d δ1 μ1
theorem d_ixO {b : Expr} {x : Str} {p pos : Pos} {tb : TE} {db : DE} (i : Nat) (hb : PD K Z X b tb db) (hN : X.N[i]? = some x := by rfl) (hv : Vis X.env.scope x := by first | exact Or.inl rfl | exact Or.inr (Or.inl rfl) | exact Or.inr (Or.inr rfl)) (hd : (x == ("__debug__" : Str)) = false := by decide) (hcd : (x == ("__classdict__" : Str)) = false := by decide) (hs : PlainIx b := by exact fun _ _ => rfl) (hk : X.K = K := by rfl) :
    PD K Z X (.Subscript (.Name x p) b pos) (tOp (rIx K) (tVar i) tb) (dIxO i db) := by
  subst hk
  exact ⟨pe_ix ix_seq (pe_var hN hv hd hcd) hb.p hs, fun B hB S μ H σ δ Q QD rl k q => by
  obtain ⟨⟨m, e0⟩, q⟩ := q
  obtain ⟨p0, o0, e1, _, _⟩ := rl.ownAt e0
  refine ⟨.ref p0, e1, ?_⟩
  refine hb.s B hB S μ H σ δ _ _ rl (fun S1 μ1 H1 δ1 y dy e2 r1 hy q1 => ?_) q
  obtain ⟨l, j, d, e, rfl, ea, q1⟩ := q1
  obtain ⟨p', o, e3, h2, vs, rfl, h3⟩ := r1.ownAt e
  rw [e1] at e3
  cases e3
  obtain ⟨u, e4, hu⟩ := RepL.atI h3 ea
  have hy : y = .int j := hy
  subst hy
  exact .inl ⟨p0, vs, j, u, rfl, rfl, SqL.of h2, e4, k S1 μ1 H1 δ1 u d e2 r1 hu q1⟩⟩
def dLenO (i : Nat) : DE := fun δ μ Q => ∃ l, δ[i]? = some (.own (.lst l)) ∧ Q (.int l.length) δ μ
theorem d_lenO {x : Str} {p p2 pos : Pos} (i : Nat) (hg : Gl X "len") (hm : X.mg "len" = none) (hN : X.N[i]? = some x := by rfl) (hv : Vis X.env.scope x := by first | exact Or.inl rfl | exact Or.inr (Or.inl rfl) | exact Or.inr (Or.inr rfl)) (hd : (x == ("__debug__" : Str)) = false := by decide) (hcd : (x == ("__classdict__" : Str)) = false := by decide) (hs : starEach [.Name x p] X.env = (false, eval (.Name x p) X.env) :: starEach [] X.env := by rfl) (hk : X.K = K := by rfl) :
    PD K Z X (.Call (.Name "len" p2) [.Name x p] [] pos) (tCB (rLenA K) (tCons (tVar i) tNil)) (dLenO i) := by
  subst hk
  exact ⟨pe_callB (call_len_seq.or call_len_str) hg hm PySem.boot_len (pa_cons (pe_var hN hv hd hcd) pa_nil hs) (by decide) (by decide) hs, fun B hB S μ H σ δ Q QD rl k q => by
  obtain ⟨l, e, q⟩ := q
  obtain ⟨p', o, e3, h2, vs, rfl, h3⟩ := rl.ownAt e
  exact ⟨.ref p', e3, .inl ⟨p', vs, rfl, .inl (SqL.of h2), k S μ H δ _ (.int l.length) (Ex.refl S) rl (by rw [RepL.length h3]; rfl) q⟩⟩⟩
/-- a new list from a slot's own one -/
def dSlO (i : Nat) (dl dh : DO) : DE := fun δ μ Q => (∃ m, δ[i]? = some (.own m)) ∧ dl δ μ fun lo δ1 μ1 => dh δ1 μ1 fun hi δ2 μ2 => ∃ l, δ2[i]? = some (.own (.lst l)) ∧ Q (.lst (cutD l lo hi)) δ2 μ2
theorem d_slO {x : Str} {p p2 pos : Pos} {lo hi : Option Expr} {tl th : TO} {dl dh : DO} (i : Nat) (hl : PDO K Z X lo tl dl) (hh : PDO K Z X hi th dh) (hN : X.N[i]? = some x := by rfl) (hv : Vis X.env.scope x := by first | exact Or.inl rfl | exact Or.inr (Or.inl rfl) | exact Or.inr (Or.inr rfl)) (hd : (x == ("__debug__" : Str)) = false := by decide) (hcd : (x == ("__classdict__" : Str)) = false := by decide) (hk : X.K = K := by rfl) :
    PD K Z X (.Subscript (.Name x p) (.Slice lo hi none p2) pos) (tSl (rSlAll K) (tVar i) tl th) (dSlO i dl dh) := by
  subst hk
  exact ⟨pe_slice (sl_str.or (sl_tupA.or sl_list)) (pe_var hN hv hd hcd) hl.p hh.p, fun B hB S μ H σ δ Q QD rl k q => by
  obtain ⟨⟨m, e0⟩, q⟩ := q
  obtain ⟨p0, o0, e1, _, _⟩ := rl.ownAt e0
  refine ⟨.ref p0, e1, ?_⟩
  refine hl.s B hB S μ H σ δ _ _ rl (fun S2 μ2 H2 δ2 lo e2 r2 q2 => ?_) q
  refine hh.s B hB S2 μ2 H2 σ δ2 _ _ r2 (fun S3 μ3 H3 δ3 hi e3 r3 q3 => ?_) q2
  obtain ⟨l, e, q3⟩ := q3
  obtain ⟨p', o, e4, h2, vs, rfl, h3⟩ := r3.ownAt e
  rw [e1] at e4
  cases e4
  refine .inr (.inr ⟨p0, vs, rfl, SqL.of h2, fun q hq => ?_⟩)
  obtain ⟨r4, g⟩ := r3.r3.alloc (o := .lst (cutV vs lo hi)) hq
  exact k _ μ3 _ δ3 _ (.lst (cutD l lo hi)) ((e2.trans e3).trans g.ex) (r3.grow g r4) ⟨q, _, rfl, upd_same, RepL.mono g.ex _ _ (RepL.cut h3 lo hi)⟩ q3⟩
/-! ### methods of built-in types -/
def rdJoin : D → List D → Mem → QM → Prop := fun x xs μ Q => ∃ a l, ∃ ys : List Str, x = .str a ∧ xs = [l] ∧ seqOf μ l = some (ys.map D.str) ∧ (ys.map (·.length)).sum + ys.length * a.length ≤ 16777216 ∧ Q (.str (Txt.join a ys)) μ
def dBM (r : D → List D → Mem → QM → Prop) (do_ : DE) (da : DA) : DE := fun δ μ Q => do_ δ μ fun x δ1 μ1 => da δ1 μ1 fun xs δ2 μ2 => r x xs μ2 fun d μ3 => Q d δ2 μ3
def rJoin (K : PySem.W.Frag) : V → List V → Hp → VK → Prop := fun x xs H Q => ∃ a p, ∃ ys : List Str, x = .str a ∧ xs = [.ref p] ∧ (SqL K H p (ys.map V.str) ∨ SqT K H p (ys.map V.str)) ∧ (ys.map (·.length)).sum + ys.length * a.length ≤ 16777216 ∧ Q (.str (Txt.join a ys)) H
/-- a text's method: r by values -/
def SimM (K : PySem.W.Frag) (r : V → List V → Hp → VK → Prop) (dr : D → List D → Mem → QM → Prop) : Prop := ∀ (S : Hp) (μ : Mem) (H : Hp) (x : V) (xs : List V) (dx : D) (ds : List D) (Q : VK) (QD : QM), R3 K S μ H → Rep K S dx x → RepL K S ds xs →
  (∀ S' μ' H' v d, Grow S μ H S' μ' H' → R3 K S' μ' H' → Rep K S' d v → QD d μ' → Q v H') → dr dx ds μ QD → r x xs H Q
def isStr : D → Prop := fun d => ∃ z, d = .str z
def dBMs (r : D → List D → Mem → QM → Prop) (do_ : DE) (da : DA) : DE := fun δ μ Q => do_ δ μ fun x δ1 μ1 => isStr x ∧ da δ1 μ1 fun xs δ2 μ2 => r x xs μ2 fun d μ3 => Q d δ2 μ3
theorem simBMs {r : V → List V → Hp → VK → Prop} {dr : D → List D → Mem → QM → Prop} {to : TE} {ta : TA} {do_ : DE} {da : DA} (hr : SimM K r dr) (ho : SimE K Z to do_) (ha : SimA K Z ta da) : SimE K Z (tBM K "str" r to ta) (dBMs dr do_ da) := fun B hB S μ H σ δ Q QD rl k q => by
  refine ho B hB S μ H σ δ _ _ rl (fun S1 μ1 H1 δ1 x dx e1 r1 hx q1 => ?_) q
  obtain ⟨⟨z, rfl⟩, q1⟩ := q1
  have hx' : x = .str z := hx
  refine ⟨by rw [hx']; rfl, ?_⟩
  refine ha B hB S1 μ1 H1 σ δ1 _ _ r1 (fun S2 μ2 H2 δ2 xs ds e2 r2 h2 q2 => ?_) q1
  refine hr S2 μ2 H2 x xs _ ds _ _ r2.r3 (Rep.mono e2 _ _ hx) h2 (fun S3 μ3 H3 v d g r3 hv q3 => ?_) q2
  exact k S3 μ3 H3 δ2 v d ((e1.trans e2).trans g.ex) (r2.grow g r3) hv q3
theorem sim_join : SimM K (rJoin K) rdJoin := fun S μ H x xs dx ds Q QD r hx hs k q => by
  obtain ⟨a, l, ys, rfl, rfl, e, hz, q⟩ := q
  obtain ⟨v, rfl, hv⟩ := RepL.one' hs
  obtain ⟨p, vs, rfl, hq, h2⟩ := seq_is r hv e
  rw [RepL.str h2] at hq
  exact ⟨a, p, ys, hx, rfl, hq, hz, k S μ H _ (.str (Txt.join a ys)) Grow.refl r rfl q⟩
theorem d_join {o e : Expr} {apos cpos : Pos} {to te : TE} {do_ de : DE} (ho : PD K Z X o to do_) (he : PD K Z X e te de) (hbase : attributeBase o "join" X.env (eval o X.env) = eval o X.env := by rfl)
    (hfew : ((backTo cpos (starEach [e] X.env)).all (fun x => !x.1) && (backToKw cpos (keywordEach [] X.env)).all (fun x => x.1.isSome) && decide ([e].length + ([] : List Keyword).length + (if ([] : List Keyword).isEmpty then 0 else 1) < 30)) = true := by rfl)
    (hline : (apos.endLine == cpos.line) = true := by rfl) (hs : starEach [e] X.env = (false, eval e X.env) :: starEach [] X.env := by rfl) (hplain : (backTo cpos (starEach [] X.env)).any (·.1) = false := by rfl) (hk : X.K = K := by rfl) :
    PD K Z X (.Call (.Attribute o "join" apos) [e] [] cpos) (tBM K "str" (rJoin K) to (tCons te tNil)) (dBMs rdJoin do_ (dCons de dNil)) := by
  subst hk
  exact ⟨pe_bm PySem.F.plainAttrs_str PySem.F.slot_str_join PySem.F.type_str_join mt_join ho.p (pa_cons he.p pa_nil hs) hbase hfew hline hs hplain, simBMs sim_join ho.s (a_cons he a_nil hs).s⟩
/-! ### isinstance with a built-in type -/
def rdIsi : DC := fun xs μ Q => ∃ x T t b, xs = [x, .ty T] ∧ tyD x = some t ∧ kitB t T = some b ∧ Q (.bl b) μ
theorem tyx_of {S : Hp} {H : Hp} (e : ExR S H) {d : D} {v : V} {t : String} (h : Rep K S d v) (ht : tyD d = some t) : TyX K H v (.type t) := by
  cases d with
  | non => cases (show some _ = some t from ht); have h : v = .non := h; subst h; exact .base .non
  | bl b => cases (show some _ = some t from ht); have h : v = .bl b := h; subst h; exact .base (.bl b)
  | int b => cases (show some _ = some t from ht); have h : v = .int b := h; subst h; exact .base (.int b)
  | str b => cases (show some _ = some t from ht); have h : v = .str b := h; subst h; exact .base (.str b)
  | tup l =>
    cases (show some _ = some t from ht)
    obtain ⟨a, vs, rfl, h1, _⟩ := h
    rcases exr_t e (SqT.of h1) with (h | ⟨o, h⟩) | h
    · exact .base (.tup h)
    · exact .fTuple h
    · obtain ⟨o, its, n, hk, hc, _⟩ := h
      exact .kTuple hk hc
  | lst l =>
    cases (show some _ = some t from ht)
    obtain ⟨a, vs, rfl, h1, _⟩ := h
    exact .base (.lst (exr_lst e h1))
  | dct l =>
    cases (show some _ = some t from ht)
    obtain ⟨a, vs, rfl, h1, _⟩ := h
    rcases exr_rd e h1 with h | ⟨o, h⟩
    · exact .base (.dK h)
    · exact .fDict h
  | _ => cases ht
theorem c_isi (hk : X.K = K := by rfl) : PDC K X (.builtin "isinstance") (rIsi K) rdIsi := by
  subst hk
  exact ⟨call_isi, fun S μ H xs ds Q QD r hx k q => by
  obtain ⟨x, T, t, b, rfl, ht, hk, q⟩ := q
  obtain ⟨v, w, rfl, h1, h2⟩ := RepL.two' hx
  have h2 : w = .ty T := h2
  subst h2
  exact ⟨v, .ty T, .type t, .type T, b, rfl, .ty T, tyx_of r.ex h1 ht, kit_ty hk, k S μ H _ (.bl b) Grow.refl r rfl q⟩⟩
/-! ### x[i] = e -/
def dSetIxO (i : Nat) (db de : DE) : DS := fun DD δ μ => de δ μ fun d δ1 μ1 => (∃ m, δ1[i]? = some (.own m)) ∧ db δ1 μ1 fun y δ2 μ2 => ∃ l k j, δ2[i]? = some (.own (.lst l)) ∧ y = .int k ∧ ixN l.length k = some j ∧ DD.nx (δ2.set i (.own (.lst (l.set j d)))) μ2
theorem simSetIxO {i : Nat} {tb te : TE} {db de : DE} (hb : SimE K Z tb db) (he : SimE K Z te de) : SimS K Z (tAsg te (gSub (tVar i) tb rSetL)) (dSetIxO i db de) := fun B hB S μ H σ δ E DD rl lf q => by
  refine he B hB S μ H σ δ _ _ rl (fun S1 μ1 H1 δ1 v d e1 r1 hv q1 => ?_) q
  obtain ⟨⟨m, e0⟩, q1⟩ := q1
  obtain ⟨p0, o0, e2, _, _⟩ := r1.ownAt e0
  refine ⟨.ref p0, e2, ?_⟩
  refine hb B hB S1 μ1 H1 σ δ1 _ _ r1 (fun S2 μ2 H2 δ2 y dy e3 r2 hy q2 => ?_) q1
  obtain ⟨l, k, j, e, rfl, hj, q2⟩ := q2
  obtain ⟨p', o, e4, h2, vs, rfl, h3⟩ := r2.ownAt e
  rw [e2] at e4
  cases e4
  exact ⟨p0, vs, k, j, rfl, hy, h2, by rw [RepL.length h3]; exact hj, lf.nx S2 μ2 _ σ _ (r2.write e e2 (m := .lst (l.set j d)) ⟨_, rfl, RepL.set (Rep.mono e3 _ _ hv) j h3⟩) q2⟩
/-- .. where x is a cell of the memory -/
def dSetIxM (da db de : DE) : DS := fun DD δ μ => de δ μ fun d δ1 μ1 => da δ1 μ1 fun x δ2 μ2 => db δ2 μ2 fun y δ3 μ3 => ∃ p l k j, x = .ref p ∧ μ3 p = some (.lst l) ∧ y = .int k ∧ ixN l.length k = some j ∧ DD.nx δ3 (updM μ3 p (.lst (l.set j d)))
theorem simSetIxM {ta tb te : TE} {da db de : DE} (ha : SimE K Z ta da) (hb : SimE K Z tb db) (he : SimE K Z te de) : SimS K Z (tAsg te (gSub ta tb rSetL)) (dSetIxM da db de) := fun B hB S μ H σ δ E DD rl lf q => by
  refine he B hB S μ H σ δ _ _ rl (fun S1 μ1 H1 δ1 v d e1 r1 hv q1 => ?_) q
  refine ha B hB S1 μ1 H1 σ δ1 _ _ r1 (fun S2 μ2 H2 δ2 x dx e2 r2 hx q2 => ?_) q1
  refine hb B hB S2 μ2 H2 σ δ2 _ _ r2 (fun S3 μ3 H3 δ3 y dy e3 r3 hy q3 => ?_) q2
  obtain ⟨p, l, k, j, rfl, hp, rfl, hj, q3⟩ := q3
  obtain ⟨_, o, h1, vs, rfl, h2⟩ := r3.r3.mu p _ hp
  obtain ⟨r4, g⟩ := r3.r3.write hp (o := .lst (vs.set j v)) (m := .lst (l.set j d)) ⟨_, rfl, RepL.set (Rep.mono (e2.trans e3) _ _ hv) j h2⟩
  exact ⟨p, vs, k, j, hx, hy, h1, by rw [RepL.length h2]; exact hj, lf.nx _ _ _ σ δ3 (r3.grow g r4) q3⟩
theorem s_setIxM {o i e : Expr} {pos p2 : Pos} {ta tb te : TE} {da db de : DE} (ha : PD K Z X o ta da) (hb : PD K Z X i tb db) (he : PD K Z X e te de)
    (hp : PS X (.Assign [.Subscript o i p2] e pos) (tAsg te (gSub ta tb rSetL))) : PDS K Z X (.Assign [.Subscript o i p2] e pos) (tAsg te (gSub ta tb rSetL)) (dSetIxM da db de) := ⟨hp, simSetIxM ha.s hb.s he.s⟩
/-! ### rules as the printer writes them -/
theorem gs_consP {e : Expr} {es : List Expr} {t : TG} {u : TGs} {d : DG} {du : DGs} (h1 : PDG K Z X e t d) (h2 : PDGs K Z X es u du) (hs : (assignEach (e :: es) X.env).map (·.2) = assign e X.env :: (assignEach es X.env).map (·.2) := by rfl) : PDGs K Z X (e :: es) (gCons t u) (gdCons d du) :=
  ⟨pgs_cons h1.p h2.p hs, fun B hB S μ H σ δ v ds Q QD rl h k q => by
    obtain ⟨x, r, rfl, q⟩ := q
    obtain ⟨y, ys, rfl, hy, hys⟩ := h
    refine ⟨y, ys, rfl, h1.s B hB S μ H σ δ y x _ _ rl hy (fun S1 μ1 H1 σ1 δ1 e1 r1 q1 => ?_) q⟩
    exact h2.s B hB S1 μ1 H1 σ1 δ1 ys r _ _ r1 (RepL.mono e1 _ _ hys) (fun S2 μ2 H2 σ2 δ2 e2 r2 q2 => k S2 μ2 H2 σ2 δ2 (e1.trans e2) r2 q2) q1⟩
theorem g_tupP {es : List Expr} {k : Nat} {t : TGs} {d : DGs} {n : Nat} {pos} (hc : X.calm = true) (h : PDGs K Z X es t d) (hn : (assignEach es X.env).length = n := by rfl) (hst : (assignEach es X.env).findIdx? (·.1) = none := by rfl) (hk : X.K = K := by rfl) : PDG K Z X (.Tuple es k pos) (gTup K n t) (gdTup n d) := by
  subst hk
  exact ⟨pg_tup hc h.p hn hst, simGTup h.s⟩
theorem s_appP {x : Str} {e : Expr} {p1 p2 p3 p4 : Pos} {te : TE} {de : DE} (i : Nat) (he : PD K Z X e te de) (hN : X.N[i]? = some x := by rfl) (hv : Vis X.env.scope x := by first | exact Or.inl rfl | exact Or.inr (Or.inl rfl) | exact Or.inr (Or.inr rfl)) (hd : (x == ("__debug__" : Str)) = false := by decide) (hcd : (x == ("__classdict__" : Str)) = false := by decide) (hbase : attributeBase (.Name x p1) "append" X.env (eval (.Name x p1) X.env) = eval (.Name x p1) X.env := by rfl)
    (hfew : ((backTo p3 (starEach [e] X.env)).all (fun x => !x.1) && (backToKw p3 (keywordEach [] X.env)).all (fun x => x.1.isSome) && decide ([e].length + ([] : List Keyword).length + (if ([] : List Keyword).isEmpty then 0 else 1) < 30)) = true := by rfl)
    (hline : (p2.endLine == p3.line) = true := by rfl) (hs : starEach [e] X.env = (false, eval e X.env) :: starEach [] X.env := by rfl) (hplain : (backTo p3 (starEach [] X.env)).any (·.1) = false := by rfl) (hsw : swapsWith (.Call (.Attribute (.Name x p1) "append" p2) [e] [] p3) none p4.line X.env = pure false := by rfl) (hk : X.K = K := by rfl) :
    PDS K Z X (.Expr (.Call (.Attribute (.Name x p1) "append" p2) [e] [] p3) p4) (tDrop (tBM K "list" rAppend (tVar i) (tCons te tNil))) (dApp i de) := by
  subst hk
  exact ⟨ps_expr (pe_bm PySem.F.plainAttrs_list PySem.F.slot_list_append PySem.F.type_list_append mt_append (pe_var hN hv hd hcd) (pa_cons he.p pa_nil hs) hbase hfew hline hs hplain) hsw, simApp he.s⟩
theorem s_augP {i : Nat} {x : Str} {e : Expr} {pos pos' : Pos} {te : TE} {de : DE} (hN : X.N.Nodup) (he : PD K Z X e te de) (hi : X.N[i]? = some x := by rfl) (hx : Loc X.env.scope x := by first | exact Or.inl rfl | exact Or.inr rfl) (hf : X.fn x = true ∨ X.env.scope.names.lookup x = some .local := by first | exact .inl rfl | exact .inr rfl | assumption) :
    PDS K Z X (.AugAssign (.Name x pos') .Add e pos) (tAug i te (ipI fun i j => i + j)) (dAug i de fun i j => i + j) := ⟨ps_aug hN hi hx he.p ip_add hf, simAug he.s⟩
theorem s_setIxP {o i e : Expr} {pos p2 : Pos} {ta tb te : TE} {da db de : DE} (ho : PD K Z X o ta da) (hi : PD K Z X i tb db) (he : PD K Z X e te de)
    (ha : ∀ v, assign (.Subscript o i p2) X.env v = (do
      let ov ← holding [v] (eval o X.env)
      let iv ← holding [v, ov] (eval i X.env)
      standAt p2
      holding [v, ov, iv] (setItem ov iv v)
      release [v, ov, iv] []) := by intro _; rfl) (hs : swapsWithSole [.Subscript o i p2] e pos.line X.env = pure false := by rfl) (hw : swappedStores [.Subscript o i p2] e X.env = pure none := by rfl)
    (h1 : (assignEach [.Subscript o i p2] X.env).map (·.2) = [assign (.Subscript o i p2) X.env] := by rfl) : PDS K Z X (.Assign [.Subscript o i p2] e pos) (tAsg te (gSub ta tb rSetL)) (dSetIxM da db de) := ⟨ps_asg he.p (pg_sub ho.p hi.p set_list ha) hs hw h1, simSetIxM ho.s hi.s he.s⟩
/-! ### a slot that is its own object's, or a value -/
def dOO (i : Nat) (d1 d2 : DE) : DE := fun δ μ Q => match δ[i]? with
  | some (.own _) => d1 δ μ Q
  | _ => d2 δ μ Q
theorem d_oo {e : Expr} {te : TE} {d1 d2 : DE} (i : Nat) (h1 : PD K Z X e te d1) (h2 : PD K Z X e te d2) : PD K Z X e te (dOO i d1 d2) := ⟨h1.p, fun B hB S μ H σ δ Q QD r k h => by
  unfold dOO at h
  split at h
  · exact h1.s B hB S μ H σ δ Q QD r k h
  · exact h2.s B hB S μ H σ δ Q QD r k h⟩
def dOT (i : Nat) (d1 d2 : DT) : DT := fun δ μ Q => match δ[i]? with
  | some (.own _) => d1 δ μ Q
  | _ => d2 δ μ Q
theorem t_oo {e : Expr} {te : TT} {d1 d2 : DT} (i : Nat) (h1 : PDT K Z X e te d1) (h2 : PDT K Z X e te d2) : PDT K Z X e te (dOT i d1 d2) := ⟨h1.p, fun B hB S μ H σ δ Q QD r k h => by
  unfold dOT at h
  split at h
  · exact h1.s B hB S μ H σ δ Q QD r k h
  · exact h2.s B hB S μ H σ δ Q QD r k h⟩
end Dl

namespace Dl
open PySem PySem.Spec PyProof.Rows L2
/-! ### defs that are called where no display is under way -/
structure FnG (P : Program) (w : World) (K : PySem.W.Frag) (mg : Str → Option Value) (base : Heap) (CX : CXT) (k : Nat) (f : Addr) (fd : FuncData) (ps : List Str) (sp : Sp) : Prop where
  ln : ∀ vs H Q E, sp vs H Q E → vs.length = ps.length
  go : ∀ (A : Around) (oe : List Env) (t : Shared) (H : Hp) (ar : Args) (us : List Value) (vs : List V) (Q : VK) (E : XK), A.guards = some [] → Room k A → Env0 P w K mg base A oe t H → BindsTo t fd ar (ps.zip us) → Vals vs us → sp vs H Q E →
    codeAny (model P w) A (.call (.ref f) ar) (CR CX oe P w H t Q E) t
theorem FnG.mono {P : Program} {w : World} {K : PySem.W.Frag} {mg : Str → Option Value} {base : Heap} {CX : CXT} {j k : Nat} {f : Addr} {fd : FuncData} {ps : List Str} {sp : Sp} (F : FnG P w K mg base CX j f fd ps sp) (h : j ≤ k) : FnG P w K mg base CX k f fd ps sp :=
  ⟨F.ln, fun A oe t H ar us vs Q E g r => F.go A oe t H ar us vs Q E g (r.mono h)⟩
theorem fng_of {CX : CXT} {P : Program} {w : World} {K : PySem.W.Frag} {mg : Str → Option Value} {base : Heap} {k : Nat} {f : Addr} {nm ql : Str} {pr : Arguments} {bd : List Stmt} {sc : Scope} {dV kV doc pm cdv ct oc : Value} {an od : Option Addr} {osl : Array (Option Value)} {N ps : List Str} {sp : Sp}
    (lk : K.lookup f = some ⟨oc, od, .func (PySem.W.fnOf nm ql pr bd sc dV kV doc pm an cdv ct), osl⟩) (hc : PySem.W.codeIn K cdv ql = true) (S : FnScope N ps sc) (ln : ∀ vs H Q E, sp vs H Q E → vs.length = ps.length)
    (hb : ∀ (A : Around) (oe : List Env) (t : Shared) (H : Hp) (vs : List V) (Q : VK) (E : XK), A.guards = some [] → Room k (A.deeper (envOfC ql sc t.heap.objs.size f cdv)) → sp vs H Q E → ∃ r, PSs (cxOf CX P w K mg base N ql sc f cdv A oe t H E) bd r ∧ r { nx := fun _ H1 => Q .non H1, rt := Q } (start N vs) H) :
    FnG P w K mg base CX (k + 1) f (PySem.W.fnOf nm ql pr bd sc dV kV doc pm an cdv ct) ps sp := by
  refine ⟨ln, fun A oe t H ar us vs Q E g rm e0 bt rl hs => ?_⟩
  have KI : K.In t.heap := e0.mod.kin.keeps fun b o e => (e0.bs b o e).1
  have nl : t.heap.NoLimit := e0.mod.nolimit.keeps fun b o e => (e0.bs b o e).1
  have kd : ∀ y ∈ ps.zip us, sc.names.lookup y.1 = some .local ∨ (sc.names.lookup y.1 = some .cell ∧ ((cellsFrom (t.heap.objs.size + 1) sc.names []).lookup y.1).isSome = true) := fun y hy => by
    obtain ⟨n, v⟩ := y
    rcases S.par n (List.of_mem_zip hy).1 with z | z
    · exact .inl z
    · exact .inr ⟨z, PySem.W.cellsFrom_some _ _ _ (.inl z)⟩
  refine codeAny_call_function rm.depth (KI _ _ lk) rfl S.co S.gen rfl (PySem.W.codeRec_of KI hc) (bt _ _ _ _ ?_)
  refine wpAny_newFunctionEnv_cells S.kind kd fun env he t1 x => ?_
  subst he
  refine ⟨nl.keeps x.toInCall.keep, codeAny_func ?_⟩
  obtain ⟨r, hr, hq⟩ := hb A oe t H vs Q E g (rm.deeper _) hs
  have I0 : Inv (cxOf CX P w K mg base N ql sc f cdv A oe t H E) [] (start N vs) H t1 := inv_start S rm.hd e0 (ln _ _ _ _ hs) rl x
  refine wpAny_mono (hr.run [] t1 (start N vs) H _ I0 hq) (fun fl t2 h2 => ?_) fun _ _ h2 => h2
  match fl, h2 with
  | .ret u, ⟨v, σ1, H1, J, rv, q⟩ => exact ⟨v, H1, J.os, J.bare, J.base, J.hok, rv, q⟩
  | .next, ⟨σ1, H1, J, q⟩ => exact ⟨V.non, H1, J.os, J.bare, J.base, J.hok, rfl, q⟩
  | .brk, ⟨_, _, _, q⟩ => exact False.elim q
  | .cont, ⟨_, _, _, q⟩ => exact False.elim q
theorem fund_g {P : Program} {w : World} {K : PySem.W.Frag} {mg : Str → Option Value} {base : Heap} {x ql : Str} {pr : Arguments} {bd : List Stmt} {sc : Scope} {dvs : List V} {f : Addr} {fd : FuncData} {CX : CXT} {N ps : List Str} {k : Nat} {sp : Sp} (F : FunD K x ql pr bd sc dvs [] f fd) (S : FnScope N ps sc) (ln : ∀ vs H Q E, sp vs H Q E → vs.length = ps.length)
    (hb : ∀ (cdv : Value) (A : Around) (oe : List Env) (t : Shared) (H : Hp) (vs : List V) (Q : VK) (E : XK), PySem.W.codeIn K cdv ql = true → A.guards = some [] → Room k (A.deeper (envOfC ql sc t.heap.objs.size f cdv)) → sp vs H Q E → ∃ r, PSs (cxOf CX P w K mg base N ql sc f cdv A oe t H E) bd r ∧ r { nx := fun _ H1 => Q .non H1, rt := Q } (start N vs) H) : FnG P w K mg base CX (k + 1) f fd ps sp := by
  obtain ⟨oc, od, dV, kV, doc, pm, an, cdv, ct, osl, rfl, lk, hcd, _⟩ := F.ex
  exact fng_of lk hcd S ln fun A oe t H vs Q E g hr hs => hb cdv A oe t H vs Q E hcd g hr hs
section
variable {X : Cx} {CX : CXT} {k : Nat} {f : Addr} {fd : FuncData} {ps : List Str} {sp : Sp} {dvs : List V} {ds : List Value} {E : L2.St → XK}
theorem run_g {pn : List (Addr × Obj)} {σ : L2.St} {H : Hp} {t : Shared} {Q : VK} {us : List Value} {vs : List V} (F : FnG X.prog X.w X.K X.mg X.base CX k f fd ps sp) (hg : X.A.guards = some []) (rm : Room k X.A) (hb : Binds X.K fd ps ds) (hd : Vals dvs ds) (hx : PassesAt CX X σ (E σ))
    (I : Inv X pn σ H t) (rl : Vals vs us) (h : sp (vs ++ dvs) H Q (E σ)) : wpAny (model X.prog X.w) X.A (call (.ref f) us) (EP X pn σ Q) X.xe t := by
  have ra : Vals (vs ++ dvs) (us ++ ds) := rl.append hd
  have la : (us ++ ds).length = ps.length := ra.length.symm.trans (F.ln _ _ _ _ h)
  refine wpAny_call (codeAny_mono (F.go X.A X.stack t H ⟨us, []⟩ (us ++ ds) (vs ++ dvs) Q (E σ) hg rm I.env0 (hb t us I.kIn la) ra h) fun r t1 hr => ?_)
  match r, hr with
  | .error e, hr => exact hx pn H t e t1 I hr
  | .ok (.ret u), hr => exact I.after hr
  | .ok .next, hr => exact False.elim hr
  | .ok .brk, hr => exact False.elim hr
  | .ok .cont, hr => exact False.elim hr
theorem pe_callG {x : Str} {p pos : Pos} {e : Expr} {es : List Expr} {ta : TA} (F : FnG X.prog X.w X.K X.mg X.base CX k f fd ps sp) (gd : X.A.guards = some []) (rm : Room k X.A) (hg : Gl X x) (hm : X.mg x = some (.ref f)) (hk : PySem.W.keepIn X.K (.ref f) = true) (hb : Binds X.K fd ps ds) (hd : Vals dvs ds) (hx : ∀ σ, PassesAt CX X σ (E σ)) (ha : PA X (e :: es) ta)
    (hdb : (x == ("__debug__" : Str)) = false) (he : starEach (e :: es) X.env = (false, eval e X.env) :: starEach es X.env) (hpl : (backTo pos (starEach es X.env)).any (·.1) = false) : PE X (.Call (.Name x p) (e :: es) [] pos) (tCallSD sp dvs E ta) :=
  ⟨fun pn t σ H Q I h => wpAny_Call_Name_kw (ld_glob I hg hm (PySem.W.callWith_K (h₀ := X.base) I.ok.mod.kin hk (thn (ha.run pos pn t σ H _ I h) fun us t1 ⟨vs, H1, I1, r, q⟩ => ⟨I1.kIn, run_g F gd rm hb hd (hx σ) I1 r q⟩) he hpl) hdb)⟩
end
/-! ### the law's own call: the script and K's tables are tracked -/
theorem nm_at {K : PySem.W.Frag} {z : Addr × Str} (hz : z ∈ tabList K) : ∃ p ∈ tabC K, p.2 = z.1 := by
  unfold tabList at hz
  obtain ⟨p, hp, e⟩ := List.mem_map.mp hz
  exact ⟨p, hp, by rw [← e]⟩
theorem tabC_hd {K : PySem.W.Frag} {p : Addr × Addr} (hp : p ∈ tabC K) : PySem.W.codeHdIn K p.1 p.2 = true := by
  unfold tabC at hp
  exact (He.ba (List.mem_filter.mp hp).2).1
def isTab (K : PySem.W.Frag) (b : Addr) : Bool := ((tabC K).map (·.2)).contains b
theorem isTab_iff {K : PySem.W.Frag} {b : Addr} : isTab K b = true ↔ ∃ p ∈ tabC K, p.2 = b := by
  unfold isTab
  rw [List.contains_iff_mem]
  exact List.mem_map
/-- what the law's call begins with -/
def startH (K : PySem.W.Frag) (a : Addr) (o : Option HO) : Hp := fun b => if b = a then o else if isTab K b = true then some (.tbl #[]) else none
theorem lawG {P : Program} {w : World} {K : PySem.W.Frag} {mg mb : Str → Option Value} {CX : CXT} {k : Nat} {fa a : Addr} {fd : FuncData} {x : Str} {sp : Sp} {s₁ : Shared} {vs : List Value} {ns : List Int}
    (KI : K.In s₁.heap) (hT : ∀ p ∈ tabC K, s₁.heap.get? p.2 = some (PySem.W.tabObj #[])) (nT : ∀ p ∈ tabC K, K.lookup p.2 = none) (hns : s₁.heap.Ns mainGlobals mg) (hbn : s₁.heap.Ns builtinsNs mb) (hbb : ∀ y : Str, y ≠ "__name__" → mb y = bootBuiltins y) (hlim : s₁.heap.NoLimit) (hgn : s₁.gens = #[])
    (ha : s₁.heap.get? a = some { cls := .type "list", data := .seq vs.toArray }) (hi : IntsAre vs ns) (hl : ns.length ≤ sizeLine) (hr : Room k callerA)
    (F : ∀ base : Heap, K.In base → base.Ns mainGlobals mg → FnG P w K mg base CX k fa fd [x] sp) (hbind : ∀ (s : Shared) (u : Value), BindsTo s fd ⟨[u], []⟩ [(x, u)])
    (hsp : ∀ H : Hp, (∀ p ∈ tabC K, H p.2 = some (.tbl #[])) → SqL K H a (ns.map V.int) → sp [.ref a] H (fun v _ => v = .bl true) fun _ _ _ => False)
    (hCX : ∀ H e s', CX [] H s₁ (fun _ _ _ => False) e s' → False) :
    codeAny (model P w) callerA (.call (.ref fa) ⟨[.ref a], []⟩) (fun r s' => r = .ok (.ret (.bool true)) ∧ OldK s₁.heap s'.heap ∧ s'.os = s₁.os ∧ AllBare s'.gens) s₁ := by
  have rv := vals_ints hi
  have tabAt : ∀ b, isTab K b = true → s₁.heap.get? b = some (PySem.W.tabObj #[]) := fun b hb => by
    obtain ⟨p, hp, e⟩ := isTab_iff.mp hb
    rw [← e]; exact hT p hp
  have aN : ¬ isTab K a = true := fun z => by
    have e := (tabAt a z).symm.trans ha
    cases (show Data.fields (#[] : Array Value) = _ from congrArg Obj.data (Option.some.inj e))
  -- the law is run with H
  have key : ∀ H : Hp, (∀ p ∈ tabC K, H p.2 = some (.tbl #[])) → (∀ b, H b = none ∨ (isTab K b = true ∧ H b = some (.tbl #[])) ∨ (b = a ∧ K.lookup a = none ∧ ∃ ob xs, H b = some (.frz ob (.lst xs)))) → SqL K H a (ns.map V.int) → HOk P w H s₁.heap →
      codeAny (model P w) callerA (.call (.ref fa) ⟨[.ref a], []⟩) (fun r s' => r = .ok (.ret (.bool true)) ∧ OldK s₁.heap s'.heap ∧ s'.os = s₁.os ∧ AllBare s'.gens) s₁ := fun H hH hO hS hok => by
    have low : ∀ {b : Addr} {o : Obj}, s₁.heap.get? b = some o → H b = none → (hidT s₁.heap H).get? b = some o := fun e n => hidT_get e n
    -- what is neither a list nor an empty row of fields is hidden
    have hid : ∀ {b : Addr} {o : Obj}, s₁.heap.get? b = some o → (∀ its n, o.data ≠ .seq its n) → o.data ≠ .fields #[] → H b = none := fun {b o} e n1 n2 => by
      rcases hO b with z | ⟨z, _⟩ | ⟨z, _⟩
      · exact z
      · have q := e.symm.trans (tabAt b z)
        cases Option.some.inj q
        exact (n2 rfl).elim
      · rw [z, ha] at e
        cases e
        exact (n1 _ _ rfl).elim
    have dct : ∀ {b : Addr} {o : Obj} {es : Array DictEntry} {ep : Nat}, s₁.heap.get? b = some o → o.data = .dict es ep → H b = none := fun {b o es ep} e d =>
      hid e (fun its n z => by rw [d] at z; cases z) (fun z => by rw [d] at z; cases z)
    have nsk : ∀ {b : Addr} {m : Str → Option Value}, s₁.heap.Ns b m → (hidT s₁.heap H).Ns b m := fun ⟨o, es, ep, e, d, r⟩ => ⟨o, es, ep, low e (dct e d), d, r⟩
    have kb : K.In (hidT s₁.heap H) := fun b o e => low (KI b o e) (by
      rcases hO b with z | ⟨z, _⟩ | ⟨z, y, _⟩
      · exact z
      · obtain ⟨p, hp, q⟩ := isTab_iff.mp z
        rw [← q, nT p hp] at e
        cases e
      · rw [z, y] at e
        cases e)
    have md : Mod K mg (hidT s₁.heap H) := ⟨kb, nsk hns, ⟨mb, nsk hbn, hbb⟩, hlim.elim fun mc hm => ⟨mc, nsk hm.1, hm.2⟩⟩
    have en : Env0 P w K mg (hidT s₁.heap H) callerA [] s₁ H := ⟨rfl, md, fun b o e => of_hidT e, Nat.le_of_eq (hidT_size _ _), trivial, (fun b hb => nomatch (show b ∈ ([] : List Addr) from hb)), hok, .of_eq hgn⟩
    refine codeAny_mono ((F _ kb (nsk hns)).go callerA [] s₁ H ⟨[.ref a], []⟩ [.ref a] [.ref a] _ _ rfl hr en (hbind s₁ (.ref a)) (.cons rfl .nil) (hsp H hH hS)) fun r t h => ?_
    match r, h with
    | .error e, h => exact (hCX H e t h).elim
    | .ok .next, h => exact False.elim h
    | .ok .brk, h => exact False.elim h
    | .ok .cont, h => exact False.elim h
    | .ok (.ret u), ⟨v, H1, os, bare, un, hok1, rv, q⟩ =>
      have q : v = .bl true := q
      subst q
      obtain rfl : u = Value.bool true := rv
      have kept : ∀ b o, ¬ isTab K b = true → s₁.heap.get? b = some o → t.heap.get? b = some o := fun b o nb e => by
        rcases hO b with z | ⟨z, _⟩ | ⟨_, _, ob, xs, z⟩
        · exact un.keep b o e z (fun y => nomatch (show b ∈ ([] : List Addr) from y)) (by simp)
        · exact (nb z).elim
        · obtain ⟨e1, _⟩ := hok b _ z
          obtain ⟨e2, _⟩ := hok1 b _ (un.frzs b ob _ z)
          rw [e] at e1
          cases e1
          exact e2
      have more : ∀ b, isTab K b = true → ∃ m : Array Value, t.heap.get? b = some (PySem.W.tabObj m) := fun b hb => by
        obtain ⟨p, hp, rfl⟩ := isTab_iff.mp hb
        obtain ⟨m, z⟩ := un.tbls p.2 #[] (hH p hp)
        exact ⟨_, hok1 p.2 _ z⟩
      refine ⟨rfl, ⟨fun b o e => ?_, fun b o e => ?_⟩, os, bare⟩
      · by_cases hb : isTab K b = true
        · obtain ⟨m, hm⟩ := more b hb
          have e0 := e.symm.trans (tabAt b hb)
          cases Option.some.inj e0
          obtain ⟨p, hp, rfl⟩ := isTab_iff.mp hb
          exact .inr (.inl ⟨((PySem.W.codeHd_of_K KI (tabC_hd hp)).tab (hT p hp)).isCodeTable, rfl, #[], m, rfl, by rw [Array.empty_append]; exact hm⟩)
        · exact .inl (kept b o hb e)
      · by_cases hb : isTab K b = true
        · obtain ⟨m, hm⟩ := more b hb
          exact ⟨_, hm⟩
        · exact ⟨o, kept b o hb e⟩
  have neT : ∀ p ∈ tabC K, p.2 ≠ a := fun p hp z => aN (isTab_iff.mpr ⟨p, hp, z⟩)
  have stT : ∀ o, ∀ p ∈ tabC K, startH K a o p.2 = some (.tbl #[]) := fun o p hp => by
    unfold startH
    rw [if_neg (neT p hp), if_pos (isTab_iff.mpr ⟨p, hp, rfl⟩)]
  have stA : ∀ o, startH K a o a = o := fun o => if_pos rfl
  have okT : ∀ o, (∀ u, o = some u → ObjOk P w (startH K a o) s₁.heap a u) → HOk P w (startH K a o) s₁.heap := fun o ho b u z => by
    by_cases hb : b = a
    · subst hb
      rw [stA] at z
      exact ho u z
    · unfold startH at z
      rw [if_neg hb] at z
      by_cases ht : isTab K b = true
      · rw [if_pos ht] at z
        cases z
        exact tabAt b ht
      · rw [if_neg ht] at z
        cases z
  cases hk : K.lookup a with
  | some o =>
    have e := KI a o hk
    rw [ha] at e
    cases e
    refine key (startH K a none) (stT none) (fun b => ?_) (.inr ⟨_, vs.toArray, _, hk, rfl, rfl, rfl, by rw [List.size_toArray, hi.length]; exact hl, by simpa using rv⟩) (okT none fun u z => nomatch z)
    by_cases hb : b = a
    · subst hb; exact .inl (stA none)
    · by_cases ht : isTab K b = true
      · exact .inr (.inl ⟨ht, by unfold startH; rw [if_neg hb, if_pos ht]⟩)
      · exact .inl (by unfold startH; rw [if_neg hb, if_neg ht])
  | none =>
    refine key (startH K a (some (.frz { cls := .type "list", data := .seq vs.toArray } (.lst (ns.map V.int))))) (stT _) (fun b => ?_) (.inl (.inr ⟨_, stA _⟩)) (okT _ fun u z => ?_)
    · by_cases hb : b = a
      · subst hb; exact .inr (.inr ⟨rfl, hk, _, _, stA _⟩)
      · by_cases ht : isTab K b = true
        · exact .inr (.inl ⟨ht, by unfold startH; rw [if_neg hb, if_pos ht]⟩)
        · exact .inl (by unfold startH; rw [if_neg hb, if_neg ht])
    · cases z
      exact ⟨ha, by rw [List.length_map]; exact hl, vs, _, rv, ha⟩
theorem walkG {l : PySem.W.OpenLaw} {n k : Nat} {q : Program} {loose : List Str} {XP : (Str → Option Value) → Heap → Prop} {YP : World → Heap → Prop} {d : DefRec} {CX : CXT} {x : Str} (hn : l.most = some n) (hn2 : n ≤ sizeLine) (hdf : d.params.defaults = []) (hr : Room k callerA)
    (F : ∀ (w : World) (mg : Str → Option Value) (fa : Addr) (h : Heap), YP w h → h.Ns mainGlobals mg → mg d.name = some (.ref fa) →
      ∃ (K : PySem.W.Frag) (fd : FuncData) (sp : Sp), K.In h ∧ (∀ p ∈ tabC K, h.get? p.2 = some (PySem.W.tabObj #[])) ∧ (∀ p ∈ tabC K, K.lookup p.2 = none) ∧ (∀ (s : Shared) (u : Value), BindsTo s fd ⟨[u], []⟩ [(x, u)]) ∧ (∀ (H : Hp) (a : Addr) (ns : List Int), ns.length ≤ n → (∀ p ∈ tabC K, H p.2 = some (.tbl #[])) → SqL K H a (ns.map V.int) → sp [.ref a] H (fun v _ => v = .bl true) fun _ _ _ => False) ∧
        ∀ base : Heap, K.In base → base.Ns mainGlobals mg → FnG l.prog w K mg base CX k fa fd [x] sp)
    (hCX : ∀ (H : Hp) (s : Shared) (e : Value) (s' : Shared), CX [] H s (fun _ _ _ => False) e s' → False) : PySem.W.WalkO q loose XP YP l.row.toRowW d [] (fun f vs => PySem.call f vs) := by
  refine Att.attach_call hn hdf fun w s₀ s₁ mg mb fa o pm cd doc a vs ns G Y ho hd hcd hmg hob hin hlen hgn => ?_
  obtain ⟨K, fd, sp, KI, hT, nT, hbd, hsp, hF⟩ := F w mg fa _ Y G.T.g hmg
  exact lawG KI hT nT G.T.g G.T.b G.T.builtins G.T.nolimit hgn hob hin (Nat.le_trans hlen hn2) hr hF hbd (fun H hH hS => hsp H a ns hlen hH hS) fun H e s' => hCX H s₁ e s'
end Dl

namespace Dl
open PySem PySem.Spec PyProof.Rows L2
variable {X : Cx} {K : PySem.W.Frag} {Z : Bs}
/-! ### what may leave: the wish W of the layer, and XD of the data -/
def LiftX (K : PySem.W.Frag) (Z : Bs) (W : WX) (XD : DXW) : Prop := ∀ (B : Bs) (S : Hp) (μ : Mem) (H : Hp) (σ : L2.St) (δ : Ss) (c : Str) (fs : XF) (a : Option Addr), SameB Z B → Rel K B S μ H σ δ → XRep K S H fs a → XD c fs δ μ → W (.ref (He.ga K c)) a σ H
structure Md (K : PySem.W.Frag) (Z : Bs) (X : Cx) (W : WX) (XD : DXW) : Prop where
  tk : Takes X W
  ow : PassesOwn (model X.prog X.w) X.A X.env X.xe
  lx : LiftX K Z W XD
  gd : X.A.guards = some []
abbrev WF : WX := fun _ _ _ _ => False
abbrev XD0 : DXW := fun _ _ _ _ => False
theorem md_nox (g : X.A.guards = some []) : Md K Z X.nox WF XD0 := ⟨takes0, PassesOwn.never, (fun _ _ _ _ _ _ _ _ _ _ _ _ z => z.elim), g⟩
theorem md_blk {s : Shared} {H : Hp} {scope : Scope} {cenv : Env} {fp : List Addr} (g : X.A.guards = some []) : Md K Z (X.blk s H scope cenv fp) WF XD0 := ⟨takes0, PassesOwn.never, (fun _ _ _ _ _ _ _ _ _ _ _ _ z => z.elim), g⟩
/-- a def's own wish -/
abbrev XDE (E : DX) : DXW := fun c fs _ μ => E c fs μ
/-! ### defaults -/
structure Dfl (dvs : List V) (dds : List D) : Prop where
  r : ∀ (K : PySem.W.Frag) (S : Hp), RepL K S dds dvs
theorem dfl0 : Dfl [] [] := ⟨fun _ _ => rfl⟩
theorem dflN : Dfl [.non] [.non] := ⟨fun _ _ => ⟨_, _, rfl, rfl, rfl⟩⟩
theorem dfl1 {i : Int} : Dfl [.int i] [.int i] := ⟨fun _ _ => ⟨_, _, rfl, rfl, rfl⟩⟩
theorem dflNN : Dfl [.non, .non] [.non, .non] := ⟨fun _ _ => ⟨_, _, rfl, rfl, _, _, rfl, rfl, rfl⟩⟩
/-! ### the call of a def -/
/-- a def as its callers know it: dvs its defaults, of which the first j are written -/
structure Cal (P : Program) (w : World) (K : PySem.W.Frag) (mg : Str → Option Value) (base : Heap) (k : Nat) (x : Str) (ps : List Str) (dvs : List V) (dsp : DSp) : Prop where
  ex : ∃ f fd, FnG P w K mg base (L2.CX P w) k f fd ps (up K dsp) ∧ mg x = some (.ref f) ∧ PySem.W.keepIn K (.ref f) = true ∧ ∀ j, j ≤ dvs.length → ∃ ds, Vals (dvs.drop j) ds ∧ Binds K fd ps ds
theorem simUpX {dsp : DSp} {dvs : List V} {dds : List D} {W : WX} {XD : DXW} {ta : TA} {da : DA} (hd : Dfl dvs dds) (lx : LiftX K Z W XD) (ha : SimA K Z ta da) :
    SimE K Z (tCallSD (up K dsp) dvs (WE W) ta) (fun δ μ Q => da δ μ fun ds δ1 μ1 => dsp (ds ++ dds) μ1 (fun d μ2 => Q d δ1 μ2) (fun c fs μ2 => XD c fs δ1 μ2)) := fun B hB S μ H σ δ Q QD rl k q => by
  refine ha B hB S μ H σ δ _ _ rl (fun S1 μ1 H1 δ1 xs ds e1 r1 hx q1 => ?_) q
  refine ⟨S1, μ1, ds ++ dds, fun d μ2 => QD d δ1 μ2, fun c fs μ2 => XD c fs δ1 μ2, r1.r3, RepL.append hx (hd.r K S1), q1, fun S2 μ2 H2 v d g r2 hv q2 => ?_, fun S2 μ2 H2 c fs a g r2 hx q2 => ?_⟩
  · exact k S2 μ2 H2 δ1 v d (e1.trans g.ex) (r1.grow g r2) hv q2
  · exact lx B S2 μ2 H2 σ δ1 c fs a hB (r1.grow g r2) hx q2
def dCallX (dsp : DSp) (dds : List D) (XD : DXW) (da : DA) : DE := fun δ μ Q => da δ μ fun ds δ1 μ1 => dsp (ds ++ dds) μ1 (fun d μ2 => Q d δ1 μ2) (fun c fs μ2 => XD c fs δ1 μ2)
theorem d_callX {k : Nat} {ps : List Str} {dvs : List V} {dds : List D} {dsp : DSp} {x : Str} {p pos : Pos} {e : Expr} {es : List Expr} {ta : TA} {da : DA} {W : WX} {XD : DXW} (j : Nat) (C : Cal X.prog X.w K X.mg X.base k x ps dvs dsp) (hj : j ≤ dvs.length) (hd : Dfl (dvs.drop j) dds) (hr : Room k X.A) (M : Md K Z X W XD) (ha : PDA K Z X (e :: es) ta da) (hk : X.K = K := by rfl) (hg : Gl X x := by rfl)
    (hdb : (x == ("__debug__" : Str)) = false := by decide) (he : starEach (e :: es) X.env = (false, eval e X.env) :: starEach es X.env := by rfl) (hpl : (backTo pos (starEach es X.env)).any (·.1) = false := by rfl) :
    PD K Z X (.Call (.Name x p) (e :: es) [] pos) (tCallSD (up K dsp) (dvs.drop j) (WE W) ta) (dCallX dsp dds XD da) := by
  subst hk
  obtain ⟨f, fd, F, hm, hkp, hb⟩ := C.ex
  obtain ⟨ds, hv, hb⟩ := hb j hj
  exact ⟨pe_callG F M.gd hr hg hm hkp hb hv (fun σ => passAt M.tk σ) ha.p hdb he hpl, simUpX hd M.lx ha.s⟩
theorem pe_callSD0 {CX : CXT} {k : Nat} {f : Addr} {fd : FuncData} {ps : List Str} {sp : Sp} {dvs : List V} {ds : List Value} {E : L2.St → XK} {x : Str} {p pos : Pos} (F : FnG X.prog X.w X.K X.mg X.base CX k f fd ps sp) (gd : X.A.guards = some []) (hr : Room k X.A) (hg : Gl X x) (hm : X.mg x = some (.ref f)) (hk : PySem.W.keepIn X.K (.ref f) = true) (hb : Binds X.K fd ps ds) (hd : Vals dvs ds) (hx : ∀ σ, PassesAt CX X σ (E σ))
    (hdb : (x == ("__debug__" : Str)) = false := by decide) : PE X (.Call (.Name x p) [] [] pos) (tCallSD sp dvs E tNil) := by
  refine ⟨fun pins s σ H Q I h => wpAny_Call_Name_kw (ld_glob I hg hm ?_ hdb)⟩
  exact PySem.W.callWith_K0 I.kIn hk (run_g (us := []) F gd hr hb hd (hx σ) I .nil h)
theorem d_callX0 {k : Nat} {ps : List Str} {dvs : List V} {dds : List D} {dsp : DSp} {x : Str} {p pos : Pos} {W : WX} {XD : DXW} (j : Nat) (C : Cal X.prog X.w K X.mg X.base k x ps dvs dsp) (hj : j ≤ dvs.length) (hd : Dfl (dvs.drop j) dds) (hr : Room k X.A) (M : Md K Z X W XD) (hk : X.K = K := by rfl) (hg : Gl X x := by rfl)
    (hdb : (x == ("__debug__" : Str)) = false := by decide) : PD K Z X (.Call (.Name x p) [] [] pos) (tCallSD (up K dsp) (dvs.drop j) (WE W) tNil) (dCallX dsp dds XD dNil) := by
  subst hk
  obtain ⟨f, fd, F, hm, hkp, hb⟩ := C.ex
  obtain ⟨ds, hv, hb⟩ := hb j hj
  exact ⟨pe_callSD0 F M.gd hr hg hm hkp hb hv (fun σ => passAt M.tk σ) hdb, simUpX hd M.lx (a_nil (X := X)).s⟩
/-! ### objects -/
def objOf (μ : Mem) : D → Option (Str × List (Str × D))
  | .obj C fs => some (C, fs)
  | .ref p => match μ p with
    | some (.obj C fs) => some (C, fs)
    | _ => none
  | _ => none
theorem obj_is {S : Hp} {μ : Mem} {H : Hp} (r : R3 K S μ H) {d : D} {v : V} {C : Str} {fs : List (Str × D)} (h : Rep K S d v) (e : objOf μ d = some (C, fs)) : ∃ a dx gs, v = .ref a ∧ H a = some (.ins (He.ga K C) dx gs) ∧ RepF K S fs gs := by
  cases d with
  | obj C' fs' =>
    cases (show some _ = some _ from e)
    obtain ⟨a, dx, gs, rfl, h1, h2⟩ := h
    exact ⟨a, dx, gs, rfl, exr_ins r.ex h1, h2⟩
  | ref p =>
    have h : v = .ref p := h
    unfold objOf at e
    dsimp only at e
    split at e
    · cases e
      rename_i hm
      obtain ⟨_, o, h1, dx, gs, rfl, h2⟩ := r.mu p _ hm
      exact ⟨p, dx, gs, h, h1, h2⟩
    · cases e
  | _ => cases (show none = some _ from e)
theorem RepF.look {S : Hp} {f : Str} : ∀ {fs : List (Str × D)} {gs : List (Str × V)}, RepF K S fs gs → ∀ {d : D}, fs.lookup f = some d → ∃ v, gs.lookup f = some v ∧ Rep K S d v
  | [], gs, _, d, e => by simp at e
  | (k, d) :: fs, gs, h, d', e => by
    obtain ⟨v, r, rfl, h1, h2⟩ := h
    by_cases hf : f == k
    · simp only [List.lookup, hf] at e ⊢
      cases e
      exact ⟨v, rfl, h1⟩
    · simp only [List.lookup, Bool.eq_false_iff.mpr hf] at e ⊢
      exact RepF.look h2 e
theorem RepF.none {S : Hp} {f : Str} : ∀ {fs : List (Str × D)} {gs : List (Str × V)}, RepF K S fs gs → fs.lookup f = none → gs.lookup f = none
  | [], gs, h, e => by have h : gs = [] := h; rw [h]; rfl
  | (k, d) :: fs, gs, h, e => by
    obtain ⟨v, r, rfl, h1, h2⟩ := h
    by_cases hf : f == k
    · simp only [List.lookup, hf] at e; cases e
    · simp only [List.lookup, Bool.eq_false_iff.mpr hf] at e ⊢
      exact RepF.none h2 e
theorem RepF.len {S : Hp} : ∀ {fs : List (Str × D)} {gs : List (Str × V)}, RepF K S fs gs → gs.length = fs.length
  | [], gs, h => by have h : gs = [] := h; rw [h]; rfl
  | (k, d) :: fs, gs, h => by
    obtain ⟨v, r, rfl, h1, h2⟩ := h
    rw [List.length_cons, List.length_cons, RepF.len h2]
def putD (f : Str) (d : D) : List (Str × D) → List (Str × D)
  | [] => [(f, d)]
  | (g, e) :: r => if g = f then (g, d) :: r else (g, e) :: putD f d r
theorem putF_cons (f : Str) (v : V) (g : Str) (e : V) (r : List (Str × V)) : putF f v ((g, e) :: r) = if g = f then (g, v) :: r else (g, e) :: putF f v r := by
  by_cases h : g = f
  · subst h; simp [putF]
  · simp [putF, h]
theorem RepF.put {S : Hp} {f : Str} {d : D} {v : V} (hd : Rep K S d v) : ∀ {fs : List (Str × D)} {gs : List (Str × V)}, RepF K S fs gs → RepF K S (putD f d fs) (putF f v gs)
  | [], gs, h => by have h : gs = [] := h; rw [h]; exact ⟨v, [], rfl, hd, rfl⟩
  | (k, e) :: fs, gs, h => by
    obtain ⟨u, r, rfl, h1, h2⟩ := h
    rw [putF_cons]
    unfold putD
    by_cases hk : k = f
    · rw [if_pos hk, if_pos hk]; exact ⟨v, r, rfl, hd, h2⟩
    · rw [if_neg hk, if_neg hk]; exact ⟨u, _, rfl, h1, RepF.put hd h2⟩
/-- o.f -/
def dFld (C : Str) (f : Str) (da : DE) : DE := fun δ μ Q => da δ μ fun x δ1 μ1 => ∃ fs d, objOf μ1 x = some (C, fs) ∧ fs.lookup f = some d ∧ Q d δ1 μ1
theorem d_fld {o : Expr} {f C : Str} {pos : Pos} {ta : TE} {da : DE} (hc : Cls K (He.ga K C)) (hn : NoAttr K (He.ga K C) f) (h : PD K Z X o ta da) (hk : X.K = K := by rfl) (hb : attributeBase o f X.env (eval o X.env) = eval o X.env := by rfl) : PD K Z X (.Attribute o f pos) (tFld K ta f) (dFld C f da) := by
  subst hk
  exact ⟨pe_fld h.p hb, fun B hB S μ H σ δ Q QD rl k q => by
    refine h.s B hB S μ H σ δ _ _ rl (fun S1 μ1 H1 δ1 x dx e1 r1 hx q1 => ?_) q
    obtain ⟨fs, d, e2, e3, q1⟩ := q1
    obtain ⟨a, ax, gs, rfl, h1, h2⟩ := obj_is r1.r3 hx e2
    obtain ⟨v, e4, hv⟩ := RepF.look h2 e3
    exact ⟨a, _, ax, gs, v, rfl, h1, hc, hn, e4, k S1 μ1 H1 δ1 v d e1 r1 hv q1⟩⟩
/-- o.f = e, o a cell of the memory -/
def dSetFld (C : Str) (f : Str) (da de : DE) : DS := fun DD δ μ => de δ μ fun d δ1 μ1 => da δ1 μ1 fun x δ2 μ2 => ∃ p fs, x = .ref p ∧ μ2 p = some (.obj C fs) ∧ fs.length < 1000 ∧ DD.nx δ2 (updM μ2 p (.obj C (putD f d fs)))
theorem s_setFld {o e : Expr} {f C : Str} {pos p2 : Pos} {ta te : TE} {da de : DE} (hc : Cls K (He.ga K C)) (hn : NoAttr K (He.ga K C) f) (ho : PD K Z X o ta da) (he : PD K Z X e te de) (hp : PS X (.Assign [.Attribute o f p2] e pos) (sFld K ta te f)) : PDS K Z X (.Assign [.Attribute o f p2] e pos) (sFld K ta te f) (dSetFld C f da de) :=
  ⟨hp, fun B hB S μ H σ δ E DD rl lf q => by
    refine he.s B hB S μ H σ δ _ _ rl (fun S1 μ1 H1 δ1 v d e1 r1 hv q1 => ?_) q
    refine ho.s B hB S1 μ1 H1 σ δ1 _ _ r1 (fun S2 μ2 H2 δ2 x dx e2 r2 hx q2 => ?_) q1
    obtain ⟨p, fs, rfl, hm, hl, q2⟩ := q2
    obtain ⟨_, o', h1, ax, gs, rfl, h2⟩ := r2.r3.mu p _ hm
    obtain ⟨r4, g⟩ := r2.r3.write hm (o := .ins (He.ga K C) ax (putF f v gs)) (m := .obj C (putD f d fs)) ⟨ax, _, rfl, RepF.put (Rep.mono e2 _ _ hv) h2⟩
    exact ⟨p, _, ax, gs, hx, h1, hc, hn, by rw [RepF.len h2]; exact hl, lf.nx _ _ _ σ δ2 (r2.grow g r4) q2⟩⟩
/-! ### methods -/
structure CalM (P : Program) (w : World) (K : PySem.W.Frag) (mg : Str → Option Value) (base : Heap) (k : Nat) (C m : Str) (ps : List Str) (dvs : List V) (dsp : DSp) : Prop where
  ex : ∃ f fd, FnG P w K mg base (L2.CX P w) k f fd ps (up K dsp) ∧ Meth K (He.ga K C) m f ∧ Cls K (He.ga K C) ∧ (∀ j, j ≤ dvs.length → ∃ ds, Vals (dvs.drop j) ds ∧ Binds K fd ps ds) ∧ ∃ oc od osl, K.lookup f = some ⟨oc, od, .func fd, osl⟩
def tMethSD (C : Addr) (m : Str) (sp : Sp) (dvs : List V) (E : L2.St → XK) (ta : TE) (t : TA) : TE := fun σ H Q => ta σ H fun x H1 => ∃ a dx fs, x = .ref a ∧ H1 a = some (.ins C dx fs) ∧ fs.lookup m = none ∧ t σ H1 fun vs H2 => sp (x :: (vs ++ dvs)) H2 Q (E σ)
theorem pe_methSD {CX : CXT} {k : Nat} {f C : Addr} {fd : FuncData} {ps : List Str} {sp : Sp} {dvs : List V} {ds : List Value} {E : L2.St → XK} {m : Str} {pos apos : Pos} {e o : Expr} {es : List Expr} {ta : TE} {t : TA} {pl : Sem Bool} (he : PE X o ta) (c : Cls X.K C) (hm : Meth X.K C m f)
    (F : FnG X.prog X.w X.K X.mg X.base CX k f fd ps sp) (gd : X.A.guards = some []) (hr : Room k X.A) (hb : Binds X.K fd ps ds) (hd : Vals dvs ds) (hx : ∀ σ, PassesAt CX X σ (E σ)) (ha : PA X (e :: es) t)
    (hst : starEach (e :: es) X.env = (false, eval e X.env) :: starEach es X.env) (hpl : (backTo pos (starEach es X.env)).any (·.1) = false)
    (ht : eval (.Call (.Attribute o m apos) (e :: es) [] pos) X.env = (do
      let ov ← eval o X.env
      standAt apos.atName
      let (f, first) ← holding [ov] (getMethod ov m pl)
      callWith pos f first (backTo pos (starEach (e :: es) X.env)) (backToKw pos (keywordEach [] X.env)))) :
    PE X (.Call (.Attribute o m apos) (e :: es) [] pos) (tMethSD C m sp dvs E ta t) := by
  refine ⟨fun pins s σ H Q I h => PySem.W.methodCall_KW (pl := pl) (thn (he.run pins s σ H _ I h) fun u s1 hu => ?_) ht⟩
  obtain ⟨x, H1, I1, rx, a, dx, fs, ex, ea, l, q⟩ := hu
  subst ex
  obtain rfl : u = Value.ref a := rx
  refine getmeth_ok I1 ea c hm l (PySem.W.callWith_K (first := [.ref a]) (h₀ := X.base) I.ok.mod.kin hm.kp (thn (ha.run pos pins s1 σ H1 _ I1 q) fun us s2 hu2 => ?_) hst hpl)
  obtain ⟨vs, H2, I2, r, q2⟩ := hu2
  exact ⟨I2.kIn, run_g (us := .ref a :: us) (vs := .ref a :: vs) F gd hr hb hd (hx σ) I2 (.cons rfl r) q2⟩
theorem pe_methSD0 {CX : CXT} {k : Nat} {f C : Addr} {fd : FuncData} {ps : List Str} {sp : Sp} {dvs : List V} {ds : List Value} {E : L2.St → XK} {m : Str} {pos apos : Pos} {o : Expr} {ta : TE} {pl : Sem Bool} (he : PE X o ta) (c : Cls X.K C) (hm : Meth X.K C m f)
    (F : FnG X.prog X.w X.K X.mg X.base CX k f fd ps sp) (gd : X.A.guards = some []) (hr : Room k X.A) (hb : Binds X.K fd ps ds) (hd : Vals dvs ds) (hx : ∀ σ, PassesAt CX X σ (E σ))
    (ht : eval (.Call (.Attribute o m apos) [] [] pos) X.env = (do
      let ov ← eval o X.env
      standAt apos.atName
      let (f, first) ← holding [ov] (getMethod ov m pl)
      callWith pos f first (backTo pos (starEach [] X.env)) (backToKw pos (keywordEach [] X.env)))) :
    PE X (.Call (.Attribute o m apos) [] [] pos) (tMethSD C m sp dvs E ta tNil) := by
  refine ⟨fun pins s σ H Q I h => PySem.W.methodCall_KW (pl := pl) (thn (he.run pins s σ H _ I h) fun u s1 hu => ?_) ht⟩
  obtain ⟨x, H1, I1, rx, a, dx, fs, ex, ea, l, q⟩ := hu
  subst ex
  obtain rfl : u = Value.ref a := rx
  exact getmeth_ok I1 ea c hm l (PySem.W.callWith_K0 (first := [.ref a]) I1.kIn hm.kp (run_g (us := [.ref a]) (vs := [.ref a]) F gd hr hb hd (hx σ) I1 (.cons rfl .nil) q))
def dMethX (C m : Str) (dsp : DSp) (dds : List D) (XD : DXW) (do_ : DE) (da : DA) : DE := fun δ μ Q => do_ δ μ fun x δ1 μ1 => ∃ fs, objOf μ1 x = some (C, fs) ∧ fs.lookup m = none ∧ da δ1 μ1 fun ds δ2 μ2 => dsp (x :: (ds ++ dds)) μ2 (fun d μ3 => Q d δ2 μ3) (fun c fs μ3 => XD c fs δ2 μ3)
theorem simMethX {C m : Str} {dsp : DSp} {dvs : List V} {dds : List D} {W : WX} {XD : DXW} {to : TE} {do_ : DE} {ta : TA} {da : DA} (hd : Dfl dvs dds) (lx : LiftX K Z W XD) (ho : SimE K Z to do_) (ha : SimA K Z ta da) :
    SimE K Z (tMethSD (He.ga K C) m (up K dsp) dvs (WE W) to ta) (dMethX C m dsp dds XD do_ da) := fun B hB S μ H σ δ Q QD rl k q => by
  refine ho B hB S μ H σ δ _ _ rl (fun S1 μ1 H1 δ1 x dx e1 r1 hx q1 => ?_) q
  obtain ⟨fs, e2, e3, q1⟩ := q1
  obtain ⟨a, ax, gs, rfl, h1, h2⟩ := obj_is r1.r3 hx e2
  refine ⟨a, ax, gs, rfl, h1, RepF.none h2 e3, ?_⟩
  refine ha B hB S1 μ1 H1 σ δ1 _ _ r1 (fun S2 μ2 H2 δ2 xs ds e4 r2 hxs q2 => ?_) q1
  refine ⟨S2, μ2, dx :: (ds ++ dds), fun d μ3 => QD d δ2 μ3, fun c fs μ3 => XD c fs δ2 μ3, r2.r3, ⟨_, _, rfl, Rep.mono e4 _ _ hx, RepL.append hxs (hd.r K S2)⟩, q2, fun S3 μ3 H3 v d g r3 hv q3 => ?_, fun S3 μ3 H3 c fs a g r3 hx q3 => ?_⟩
  · exact k S3 μ3 H3 δ2 v d ((e1.trans e4).trans g.ex) (r2.grow g r3) hv q3
  · exact lx B S3 μ3 H3 σ δ2 c fs a hB (r2.grow g r3) hx q3
theorem d_methX {k : Nat} {C m : Str} {ps : List Str} {dvs : List V} {dds : List D} {dsp : DSp} {pos apos : Pos} {e o : Expr} {es : List Expr} {to : TE} {do_ : DE} {ta : TA} {da : DA} {W : WX} {XD : DXW} {pl : Sem Bool} (j : Nat) (F : CalM X.prog X.w K X.mg X.base k C m ps dvs dsp) (hj : j ≤ dvs.length) (hd : Dfl (dvs.drop j) dds) (hr : Room k X.A) (M : Md K Z X W XD) (ho : PD K Z X o to do_) (ha : PDA K Z X (e :: es) ta da) (hk : X.K = K := by rfl)
    (hst : starEach (e :: es) X.env = (false, eval e X.env) :: starEach es X.env := by rfl) (hpl : (backTo pos (starEach es X.env)).any (·.1) = false := by rfl)
    (ht : eval (.Call (.Attribute o m apos) (e :: es) [] pos) X.env = (do
      let ov ← eval o X.env
      standAt apos.atName
      let (f, first) ← holding [ov] (getMethod ov m pl)
      callWith pos f first (backTo pos (starEach (e :: es) X.env)) (backToKw pos (keywordEach [] X.env))) := by rfl) :
    PD K Z X (.Call (.Attribute o m apos) (e :: es) [] pos) (tMethSD (He.ga K C) m (up K dsp) (dvs.drop j) (WE W) to ta) (dMethX C m dsp dds XD do_ da) := by
  subst hk
  obtain ⟨f, fd, G, hm, hc, hb, _⟩ := F.ex
  obtain ⟨ds, hv, hb⟩ := hb j hj
  exact ⟨pe_methSD ho.p hc hm G M.gd hr hb hv (fun σ => passAt M.tk σ) ha.p hst hpl ht, simMethX hd M.lx ho.s ha.s⟩
theorem d_methX0 {k : Nat} {C m : Str} {ps : List Str} {dvs : List V} {dds : List D} {dsp : DSp} {pos apos : Pos} {o : Expr} {to : TE} {do_ : DE} {W : WX} {XD : DXW} {pl : Sem Bool} (j : Nat) (F : CalM X.prog X.w K X.mg X.base k C m ps dvs dsp) (hj : j ≤ dvs.length) (hd : Dfl (dvs.drop j) dds) (hr : Room k X.A) (M : Md K Z X W XD) (ho : PD K Z X o to do_) (hk : X.K = K := by rfl)
    (ht : eval (.Call (.Attribute o m apos) [] [] pos) X.env = (do
      let ov ← eval o X.env
      standAt apos.atName
      let (f, first) ← holding [ov] (getMethod ov m pl)
      callWith pos f first (backTo pos (starEach [] X.env)) (backToKw pos (keywordEach [] X.env))) := by rfl) :
    PD K Z X (.Call (.Attribute o m apos) [] [] pos) (tMethSD (He.ga K C) m (up K dsp) (dvs.drop j) (WE W) to tNil) (dMethX C m dsp dds XD do_ dNil) := by
  subst hk
  obtain ⟨f, fd, G, hm, hc, hb, _⟩ := F.ex
  obtain ⟨ds, hv, hb⟩ := hb j hj
  exact ⟨pe_methSD0 ho.p hc hm G M.gd hr hb hv (fun σ => passAt M.tk σ) ht, simMethX hd M.lx ho.s (a_nil (X := X)).s⟩
/-! ### an object is made -/
structure CalI (P : Program) (w : World) (K : PySem.W.Frag) (mg : Str → Option Value) (base : Heap) (k : Nat) (C : Str) (ps : List Str) (dvs : List V) (dsp : DSp) : Prop where
  ex : ∃ f fd, FnG P w K mg base (L2.CX P w) k f fd ps (up K dsp) ∧ Mk K (He.ga K C) f ∧ mg C = some (.ref (He.ga K C)) ∧ ∀ j, j ≤ dvs.length → ∃ ds, Vals (dvs.drop j) ds ∧ Binds K fd ps ds
def tMakeSD (C : Addr) (sp : Sp) (dvs : List V) (E : L2.St → XK) (t : TA) : TE := fun σ H Q => t σ H fun vs H1 => ∀ x dx, H1 x = none → H1 dx = none → dx ≠ x →
  sp (.ref x :: (vs ++ dvs)) (upd (upd H1 dx (.own x)) x (.ins C dx [])) (fun v H2 => v = .non ∧ Q (.ref x) H2) (E σ)
theorem gd_make {A : Around} {C : Addr} {us : List Value} (h : A.guards = some []) : (A.under (.builtin "type.__call__" ⟨.ref C :: us, []⟩)).guards = some [] := by
  first | exact h | simpa [Around.under, Code.guards, Code.isGuard, guardIds, pushGuards] using h
theorem run_mk {CX : CXT} {k : Nat} {f C : Addr} {fd : FuncData} {ps : List Str} {sp : Sp} {dvs : List V} {ds : List Value} {E : L2.St → XK} {pins : List (Addr × Obj)} {σ : L2.St} {H : Hp} {s : Shared} {Q : VK} {us : List Value} {vs : List V}
    (M : Mk X.K C f) (F : FnG X.prog X.w X.K X.mg X.base CX k f fd ps sp) (gd : X.A.guards = some []) (hr : Room (k + 1) X.A) (hb : Binds X.K fd ps ds) (hd : Vals dvs ds) (hx : PassesAt CX X σ (E σ)) (I : Inv X pins σ H s) (r : Vals vs us)
    (h : ∀ x dx, H x = none → H dx = none → dx ≠ x → sp (.ref x :: (vs ++ dvs)) (upd (upd H dx (.own x)) x (.ins C dx [])) (fun v H2 => v = .non ∧ Q (.ref x) H2) (E σ)) :
    wpAny (model X.prog X.w) X.A (call (.ref C) us) (EP X pins σ Q) X.xe s := by
  have J := Inv.made (C := C) I
  have q := h (s.heap.objs.size + 1) s.heap.objs.size (I.hok.fresh (Nat.le_succ _)) (I.hok.fresh (Nat.le_refl _)) (Nat.ne_of_lt (Nat.lt_succ_self _))
  have rr : Vals (V.ref (s.heap.objs.size + 1) :: (vs ++ dvs)) (Value.ref (s.heap.objs.size + 1) :: (us ++ ds)) := .cons rfl (r.append hd)
  have ln : (Value.ref (s.heap.objs.size + 1) :: us ++ ds).length = ps.length := (rr.length.symm.trans (F.ln _ _ _ _ q))
  have run := F.go _ X.stack _ _ ⟨Value.ref (s.heap.objs.size + 1) :: us, []⟩ _ _ _ (E σ) (gd_make gd) (hr.make C us []) (J.env0.make C us []) (hb _ (Value.ref (s.heap.objs.size + 1) :: us) J.kIn ln) rr q
  refine wpAny_call (make_map (f := f) I.kIn M.makes M.init (beq_iff_eq.mp M.fn) (codeAny_mono run fun z s' hz => ?_))
  match z, hz with
  | .error e, hz => exact hx pins _ _ e s' J hz
  | .ok (.ret u), hz =>
    obtain ⟨v, H', I3, rv, ev, q3⟩ := J.after hz
    subst ev
    exact ⟨rv, V.ref (s.heap.objs.size + 1), H', I3, rfl, q3⟩
theorem pe_mkSD {CX : CXT} {k : Nat} {f C : Addr} {fd : FuncData} {ps : List Str} {sp : Sp} {dvs : List V} {ds : List Value} {E : L2.St → XK} {x : Str} {p pos : Pos} {e : Expr} {es : List Expr} {t : TA} (M : Mk X.K C f) (F : FnG X.prog X.w X.K X.mg X.base CX k f fd ps sp) (gd : X.A.guards = some []) (hr : Room (k + 1) X.A) (hg : Gl X x) (hm : X.mg x = some (.ref C)) (hb : Binds X.K fd ps ds) (hd : Vals dvs ds) (hx : ∀ σ, PassesAt CX X σ (E σ))
    (ha : PA X (e :: es) t) (hdb : (x == ("__debug__" : Str)) = false) (he : starEach (e :: es) X.env = (false, eval e X.env) :: starEach es X.env) (hpl : (backTo pos (starEach es X.env)).any (·.1) = false) :
    PE X (.Call (.Name x p) (e :: es) [] pos) (tMakeSD C sp dvs E t) := by
  refine ⟨fun pins s σ H Q I h => wpAny_Call_Name_kw (ld_glob I hg hm (PySem.W.callWith_K (h₀ := X.base) I.ok.mod.kin M.kp (thn (ha.run pos pins s σ H _ I h) fun us s1 hu => ?_) he hpl) hdb)⟩
  obtain ⟨vs, H1, I1, r, q⟩ := hu
  exact ⟨I1.kIn, run_mk M F gd hr hb hd (hx σ) I1 r q⟩
theorem pe_mkSD0 {CX : CXT} {k : Nat} {f C : Addr} {fd : FuncData} {ps : List Str} {sp : Sp} {dvs : List V} {ds : List Value} {E : L2.St → XK} {x : Str} {p pos : Pos} (M : Mk X.K C f) (F : FnG X.prog X.w X.K X.mg X.base CX k f fd ps sp) (gd : X.A.guards = some []) (hr : Room (k + 1) X.A) (hg : Gl X x) (hm : X.mg x = some (.ref C)) (hb : Binds X.K fd ps ds) (hd : Vals dvs ds) (hx : ∀ σ, PassesAt CX X σ (E σ))
    (hdb : (x == ("__debug__" : Str)) = false) : PE X (.Call (.Name x p) [] [] pos) (tMakeSD C sp dvs E tNil) :=
  ⟨fun pins s σ H Q I h => wpAny_Call_Name_kw (ld_glob I hg hm (PySem.W.callWith_K0 I.kIn M.kp (run_mk (us := []) (vs := []) M F gd hr hb hd (hx σ) I .nil h)) hdb)⟩
/-- a cell is forgotten -/
def dropM (μ : Mem) (p : Addr) : Mem := fun a => if a = p then none else μ a
theorem dropM_le (μ : Mem) (p : Addr) : LeM (dropM μ p) μ := fun a m h => by
  unfold dropM at h
  by_cases ha : a = p
  · rw [if_pos ha] at h; cases h
  · rw [if_neg ha] at h; exact h
/-- C(..): a new cell of the memory -/
def dMakeM (C : Str) (dsp : DSp) (dds : List D) (XD : DXW) (da : DA) : DE := fun δ μ Q => da δ μ fun ds δ1 μ1 => ∀ p, μ1 p = none → dsp (.ref p :: (ds ++ dds)) (updM μ1 p (.obj C [])) (fun d μ2 => d = .non ∧ Q (.ref p) δ1 μ2) (fun c fs μ2 => XD c fs δ1 (dropM μ2 p))
theorem simMakeM {C : Str} {dsp : DSp} {dvs : List V} {dds : List D} {W : WX} {XD : DXW} {ta : TA} {da : DA} (hd : Dfl dvs dds) (lx : LiftX K Z W XD) (ha : SimA K Z ta da) : SimE K Z (tMakeSD (He.ga K C) (up K dsp) dvs (WE W) ta) (dMakeM C dsp dds XD da) := fun B hB S μ H σ δ Q QD rl k q => by
  refine ha B hB S μ H σ δ _ _ rl (fun S1 μ1 H1 δ1 xs ds e1 r1 hx q1 => ?_) q
  intro p dx hp hdx hne
  have g1 : Grow S1 μ1 H1 S1 μ1 (upd H1 dx (.own p)) := ⟨Ex.refl S1, fun _ _ e => .inl e, fun a u e _ _ _ => by rw [upd_ne (ne_of_none e hdx)]; exact e, fun a n e => .inl (by rw [e]; rfl), th_upd⟩
  have r3 : R3 K S1 μ1 (upd H1 dx (.own p)) := ⟨fun a u e => exr_upd (S := S1) (r1.r3.ex a u e) (fun z => by rw [z, (r1.r3.free hdx).1] at e; cases e), fun a n e => by
    obtain ⟨h1, u, h2, h3⟩ := r1.r3.mu a n e
    exact ⟨h1, u, by rw [upd_ne (ne_of_none h2 hdx)]; exact h2, h3⟩, r1.r3.tb.w (oldX_none hdx) (fun _ z => nomatch z)⟩
  have hp2 : (upd H1 dx (.own p)) p = none := by rw [upd_ne (fun z => hne z.symm)]; exact hp
  obtain ⟨r4, g2⟩ := r3.cell (o := .ins (He.ga K C) dx []) (m := .obj C []) hp2 ⟨dx, [], rfl, rfl⟩
  have g := g1.trans g2
  refine ⟨S1, updM μ1 p (.obj C []), .ref p :: (ds ++ dds), fun d μ2 => d = .non ∧ QD (.ref p) δ1 μ2, fun c fs μ2 => XD c fs δ1 (dropM μ2 p), r4, ⟨_, _, rfl, rfl, RepL.append hx (hd.r K S1)⟩, q1 p (r1.r3.free hp).2, fun S2 μ2 H2 v d g3 r5 hv q2 => ?_, fun S2 μ2 H2 c fs a g3 r5 hx q2 => ?_⟩
  · obtain ⟨rfl, q2⟩ := q2
    exact ⟨hv, k S2 μ2 H2 δ1 _ (.ref p) (e1.trans g3.ex) (r1.grow (g.trans g3) r5) rfl q2⟩
  · exact lx B S2 (dropM μ2 p) H2 σ δ1 c fs a hB ((r1.grow (g.trans g3) r5).leM (dropM_le μ2 p)) hx q2
/-- a cell is frozen -/
theorem dropM_upd {μ : Mem} {p : Addr} {m : MO} (h : μ p = none) : dropM (updM μ p m) p = μ := by
  funext a
  unfold dropM updM
  by_cases ha : a = p
  · rw [if_pos ha, ha, h]
  · rw [if_neg ha, if_neg ha]
theorem R3.freezeM {S : Hp} {μ : Mem} {H : Hp} (r : R3 K S μ H) {p : Addr} {m : MO} (h : μ p = some m) : ∃ o, R3 K (upd S p o) (dropM μ p) H ∧ Grow S μ H (upd S p o) (dropM μ p) H ∧ Rep K (upd S p o) (frozen m) (.ref p) := by
  obtain ⟨hs, o, ho, hm⟩ := r.mu p m h
  have e : Ex S (upd S p o) := Ex.new hs
  have dm : ∀ a n, dropM μ p a = some n → a ≠ p ∧ μ a = some n := fun a n z => by
    unfold dropM at z
    by_cases ha : a = p
    · rw [if_pos ha] at z; cases z
    · rw [if_neg ha] at z; exact ⟨ha, z⟩
  refine ⟨o, ⟨fun a u z => ?_, fun a n z => ?_, (r.tb.s (oldX_some ho hm.nx)).d (dropM_le μ p)⟩, ⟨e, fun a u z => ?_, fun a u z _ _ _ => z, fun a n z => .inl (by rw [(dm a n z).2]; rfl), fun a u z => ⟨u, z⟩⟩, RepM.frozen hs hm⟩
  · by_cases ha : a = p
    · subst ha; rw [upd_same] at z; cases z; exact .inl ⟨ho, hm.notMet⟩
    · rw [upd_ne ha] at z; exact r.ex a u z
  · obtain ⟨ha, z⟩ := dm a n z
    obtain ⟨h1, u, h2, h3⟩ := r.mu a n z
    exact ⟨by rw [upd_ne ha]; exact h1, u, h2, RepM.mono e n u h3⟩
  · by_cases ha : a = p
    · subst ha; exact .inr (.inr (by rw [h]; rfl))
    · rw [upd_ne ha] at z; exact .inl z
/-- C(..): an object that stays as __init__ leaves it -/
def dMakeI (C : Str) (dsp : DSp) (dds : List D) (XD : DXW) (da : DA) : DE := fun δ μ Q => da δ μ fun ds δ1 μ1 => ∀ p, μ1 p = none → dsp (.ref p :: (ds ++ dds)) (updM μ1 p (.obj C [])) (fun d μ2 => d = .non ∧ ∃ p' fs, D.ref p = .ref p' ∧ μ2 p' = some (.obj C fs) ∧ Q (.obj C fs) δ1 (dropM μ2 p')) (fun c fs μ2 => XD c fs δ1 (dropM μ2 p))
theorem simMakeI {C : Str} {dsp : DSp} {dvs : List V} {dds : List D} {W : WX} {XD : DXW} {ta : TA} {da : DA} (hd : Dfl dvs dds) (lx : LiftX K Z W XD) (ha : SimA K Z ta da) : SimE K Z (tMakeSD (He.ga K C) (up K dsp) dvs (WE W) ta) (dMakeI C dsp dds XD da) := fun B hB S μ H σ δ Q QD rl k q => by
  refine simMakeM hd lx ha B hB S μ H σ δ Q (fun d δ1 μ1 => ∃ p fs, d = .ref p ∧ μ1 p = some (.obj C fs) ∧ QD (.obj C fs) δ1 (dropM μ1 p)) rl (fun S1 μ1 H1 δ1 v d e1 r1 hv q1 => ?_) ?_
  · obtain ⟨p, fs, rfl, hm, q1⟩ := q1
    obtain ⟨o, r3, g, hr⟩ := r1.r3.freezeM hm
    have hv : v = .ref p := hv
    subst hv
    exact k _ _ _ δ1 _ (.obj C fs) (e1.trans g.ex) (r1.grow g r3) hr q1
  · exact q
end Dl

namespace Dl
open PySem PySem.Spec PyProof.Rows L2
variable {X : Cx} {K : PySem.W.Frag} {Z : Bs}
/-! ### making, as rules -/
theorem d_makeM {k : Nat} {C : Str} {ps : List Str} {dvs : List V} {dds : List D} {dsp : DSp} {p pos : Pos} {e : Expr} {es : List Expr} {ta : TA} {da : DA} {W : WX} {XD : DXW} (j : Nat) (F : CalI X.prog X.w K X.mg X.base k C ps dvs dsp) (hj : j ≤ dvs.length) (hd : Dfl (dvs.drop j) dds) (hr : Room (k + 1) X.A) (M : Md K Z X W XD) (ha : PDA K Z X (e :: es) ta da) (hk : X.K = K := by rfl) (hg : Gl X C := by rfl)
    (hdb : (C == ("__debug__" : Str)) = false := by decide) (he : starEach (e :: es) X.env = (false, eval e X.env) :: starEach es X.env := by rfl) (hpl : (backTo pos (starEach es X.env)).any (·.1) = false := by rfl) :
    PD K Z X (.Call (.Name C p) (e :: es) [] pos) (tMakeSD (He.ga K C) (up K dsp) (dvs.drop j) (WE W) ta) (dMakeM C dsp dds XD da) := by
  subst hk
  obtain ⟨f, fd, G, hm, hc, hb⟩ := F.ex
  obtain ⟨ds, hv, hb⟩ := hb j hj
  exact ⟨pe_mkSD hm G M.gd hr hg hc hb hv (fun σ => passAt M.tk σ) ha.p hdb he hpl, simMakeM hd M.lx ha.s⟩
theorem d_makeM0 {k : Nat} {C : Str} {ps : List Str} {dvs : List V} {dds : List D} {dsp : DSp} {p pos : Pos} {W : WX} {XD : DXW} (j : Nat) (F : CalI X.prog X.w K X.mg X.base k C ps dvs dsp) (hj : j ≤ dvs.length) (hd : Dfl (dvs.drop j) dds) (hr : Room (k + 1) X.A) (M : Md K Z X W XD) (hk : X.K = K := by rfl) (hg : Gl X C := by rfl)
    (hdb : (C == ("__debug__" : Str)) = false := by decide) : PD K Z X (.Call (.Name C p) [] [] pos) (tMakeSD (He.ga K C) (up K dsp) (dvs.drop j) (WE W) tNil) (dMakeM C dsp dds XD dNil) := by
  subst hk
  obtain ⟨f, fd, G, hm, hc, hb⟩ := F.ex
  obtain ⟨ds, hv, hb⟩ := hb j hj
  exact ⟨pe_mkSD0 hm G M.gd hr hg hc hb hv (fun σ => passAt M.tk σ) hdb, simMakeM hd M.lx (a_nil (X := X)).s⟩
theorem d_makeI {k : Nat} {C : Str} {ps : List Str} {dvs : List V} {dds : List D} {dsp : DSp} {p pos : Pos} {e : Expr} {es : List Expr} {ta : TA} {da : DA} {W : WX} {XD : DXW} (j : Nat) (F : CalI X.prog X.w K X.mg X.base k C ps dvs dsp) (hj : j ≤ dvs.length) (hd : Dfl (dvs.drop j) dds) (hr : Room (k + 1) X.A) (M : Md K Z X W XD) (ha : PDA K Z X (e :: es) ta da) (hk : X.K = K := by rfl) (hg : Gl X C := by rfl)
    (hdb : (C == ("__debug__" : Str)) = false := by decide) (he : starEach (e :: es) X.env = (false, eval e X.env) :: starEach es X.env := by rfl) (hpl : (backTo pos (starEach es X.env)).any (·.1) = false := by rfl) :
    PD K Z X (.Call (.Name C p) (e :: es) [] pos) (tMakeSD (He.ga K C) (up K dsp) (dvs.drop j) (WE W) ta) (dMakeI C dsp dds XD da) := by
  subst hk
  obtain ⟨f, fd, G, hm, hc, hb⟩ := F.ex
  obtain ⟨ds, hv, hb⟩ := hb j hj
  exact ⟨pe_mkSD hm G M.gd hr hg hc hb hv (fun σ => passAt M.tk σ) ha.p hdb he hpl, simMakeI hd M.lx ha.s⟩
/-! ### defs -/
theorem lift_def {S : Hp} {μ : Mem} {H : Hp} {E : XK} {ED : DX} (kx : ∀ S' μ' H' c fs a, Grow S μ H S' μ' H' → R3 K S' μ' H' → XRep K S' H' fs a → ED c fs μ' → E (.ref (He.ga K c)) a H') : LiftX K ⟨S, μ, H, S, fun _ => none⟩ (fun cls d _ H' => E cls d H') (XDE ED) :=
  fun B S' μ' H' σ δ c fs a hB r hx q => by
    exact kx S' μ' H' c fs a (r.back hB).gr r.r3 hx q
/-- THE RULE for a def: E is what may leave -/
theorem fn_ofX {P : Program} {w : World} {mg : Str → Option Value} {base : Heap} {x qual : Str} {params : Arguments} {body : List Stmt} {scope : Scope} {dvs : List V} {f : Addr} {fd : FuncData} {N ps : List Str} {k : Nat} {dsp : DSp} {rd : DX → DS} (G : FunD K x qual params body scope dvs [] f fd) (Sc : FnScope N ps scope) (len : ∀ ds μ Q E, dsp ds μ Q E → ds.length = ps.length)
    (hbody : ∀ (Z : Bs) (cdv : Value) (A : Around) (outer : List Env) (s : Shared) (H : Hp) (E : XK) (ED : DX), Room k (A.deeper (envOfC qual scope s.heap.objs.size f cdv)) → Md K Z (cxOf (L2.CX P w) P w K mg base N qual scope f cdv A outer s H E) (fun cls d _ H => E cls d H) (XDE ED) → PySem.W.codeIn K cdv qual = true → ∃ t, PDSs K Z (cxOf (L2.CX P w) P w K mg base N qual scope f cdv A outer s H E) body t (rd ED))
    (hread : ∀ ds μ Q E, dsp ds μ Q E → rd E { nx := fun _ μ' => Q .non μ', rt := Q } (startD N.length ds) μ) : FnG P w K mg base (L2.CX P w) (k + 1) f fd ps (up K dsp) := by
  refine fund_g G Sc (fun vs H Q E h => ?_) (fun cdv A outer s H vs Q E hcd gd hr h => ?_)
  · obtain ⟨S, μ, ds, QD, ED, _, hl, hs, _⟩ := h
    rw [RepL.length hl]
    exact len _ _ _ _ hs
  · obtain ⟨S, μ, ds, QD, ED, r, hl, hs, kq, kx⟩ := h
    obtain ⟨t, b⟩ := hbody ⟨S, μ, H, S, fun _ => none⟩ cdv A outer s H E ED hr ⟨takes_of rfl rfl rfl rfl, passes_of rfl, lift_def kx, gd⟩ hcd
    exact ⟨t, b.p, b.s ⟨S, μ, H, S, fun _ => none⟩ (SameB.refl _) S μ H (start N vs) _ _ { nx := fun _ μ' => QD .non μ', rt := QD } (start_rel r hl) ⟨fun S' μ' H' σ' δ' r' q' => kq S' μ' H' .non .non r'.gr r'.r3 rfl q', fun S' μ' H' v d r' g' hv q' => kq S' μ' H' v d g' r' hv q', (fun _ _ _ _ _ _ z => z.elim), (fun _ _ _ _ _ _ z => z.elim)⟩ (hread ds μ QD ED hs)⟩
/-- the law's def: nothing leaves -/
theorem fn_of0 {P : Program} {w : World} {mg : Str → Option Value} {base : Heap} {x qual : Str} {params : Arguments} {body : List Stmt} {scope : Scope} {dvs : List V} {f : Addr} {fd : FuncData} {N ps : List Str} {k : Nat} {dsp : DSp} {rd : DX → DS} (G : FunD K x qual params body scope dvs [] f fd) (Sc : FnScope N ps scope) (len : ∀ ds μ Q E, dsp ds μ Q E → ds.length = ps.length)
    (hbody : ∀ (Z : Bs) (cdv : Value) (A : Around) (outer : List Env) (s : Shared) (H : Hp) (E : XK), Room k (A.deeper (envOfC qual scope s.heap.objs.size f cdv)) → Md K Z (cxOf CX0 P w K mg base N qual scope f cdv A outer s H E).nox WF (XDE X0) → PySem.W.codeIn K cdv qual = true → ∃ t, PDSs K Z (cxOf CX0 P w K mg base N qual scope f cdv A outer s H E).nox body t (rd X0))
    (hread : ∀ ds μ Q E, dsp ds μ Q E → rd X0 { nx := fun _ μ' => Q .non μ', rt := Q } (startD N.length ds) μ) : FnG P w K mg base CX0 (k + 1) f fd ps (up K dsp) := by
  refine fund_g G Sc (fun vs H Q E h => ?_) (fun cdv A outer s H vs Q E hcd gd hr h => ?_)
  · obtain ⟨S, μ, ds, QD, ED, _, hl, hs, _⟩ := h
    rw [RepL.length hl]
    exact len _ _ _ _ hs
  · obtain ⟨S, μ, ds, QD, ED, r, hl, hs, kq, kx⟩ := h
    obtain ⟨t, b⟩ := hbody ⟨S, μ, H, S, fun _ => none⟩ cdv A outer s H E hr (md_nox gd) hcd
    exact ⟨t, b.p.nox, b.s ⟨S, μ, H, S, fun _ => none⟩ (SameB.refl _) S μ H (start N vs) _ _ { nx := fun _ μ' => QD .non μ', rt := QD } (start_rel r hl) ⟨fun S' μ' H' σ' δ' r' q' => kq S' μ' H' .non .non r'.gr r'.r3 rfl q', fun S' μ' H' v d r' g' hv q' => kq S' μ' H' v d g' r' hv q', (fun _ _ _ _ _ _ z => z.elim), (fun _ _ _ _ _ _ z => z.elim)⟩ (hread ds μ QD ED hs)⟩
/-! ### how a def stands behind the top -/
structure At (K : PySem.W.Frag) (mg : Str → Option Value) (x : Str) (st : Stmt) (dvs : List V) : Prop where
  ex : ∃ f fd, FunD K x x (defArgs st) (defBody st) (defScope st) dvs [] f fd ∧ mg x = some (.ref f)
structure AtM (K : PySem.W.Frag) (C m qual : Str) (st : Stmt) (dvs : List V) : Prop where
  ex : ∃ f fd, FunD K m qual (defArgs st) (defBody st) (defScope st) dvs [] f fd ∧ Meth K (He.ga K C) m f ∧ Cls K (He.ga K C)
structure AtI (K : PySem.W.Frag) (mg : Str → Option Value) (C qual : Str) (st : Stmt) (dvs : List V) : Prop where
  ex : ∃ f fd, FunD K "__init__" qual (defArgs st) (defBody st) (defScope st) dvs [] f fd ∧ Mk K (He.ga K C) f ∧ mg C = some (.ref (He.ga K C))
/-- what its callers may leave out -/
def BindOk (x qual : Str) (st : Stmt) (ps : List Str) : List V → Prop
  | [] => ∀ (kV doc pm : Value) (an : Option Addr) (cdv ct : Value) (us : List Value), us.length = ps.length → bindArgs (PySem.W.fnOf x qual (defArgs st) (defBody st) (defScope st) .none kV doc pm an cdv ct) ⟨us, []⟩ = pure (ps.zip us)
  | d :: dvs => (dvs.length + 1 ≤ ps.length) ∧ ∀ (j : Nat), j ≤ dvs.length + 1 → ∀ (T : Addr) (kV doc pm : Value) (an : Option Addr) (cdv ct : Value) (us its : List Value), us.length + (dvs.length + 1) = ps.length + j → its.length = dvs.length + 1 →
      ∃ k, bindArgs (PySem.W.fnOf x qual (defArgs st) (defBody st) (defScope st) (.ref T) kV doc pm an cdv ct) ⟨us, []⟩ = seqItems? (.ref T) >>= k ∧ k (some its.toArray) = pure (ps.zip (us ++ its.drop j))
theorem binds_of {x qual : Str} {st : Stmt} {ps : List Str} {dvs : List V} {f : Addr} {fd : FuncData} (G : FunD K x qual (defArgs st) (defBody st) (defScope st) dvs [] f fd) (h : BindOk x qual st ps dvs) : ∀ j, j ≤ dvs.length → ∃ ds, Vals (dvs.drop j) ds ∧ Binds K fd ps ds := by
  cases dvs with
  | nil =>
    intro j hj
    refine ⟨[], by simpa using Paired.nil, G.bindsN h⟩
  | cons d dvs =>
    intro j hj
    obtain ⟨hl, h⟩ := h
    have hj : j ≤ dvs.length + 1 := by simpa using hj
    refine G.binds1 (ps.length + j - (dvs.length + 1)) j (by simp) (by simp; omega) fun T kV doc pm an cdv ct us its h1 h2 => ?_
    exact h j hj T kV doc pm an cdv ct us its (by omega) (by simpa using h2)
theorem cal_of {P : Program} {w : World} {mg : Str → Option Value} {base : Heap} {x : Str} {st : Stmt} {N ps : List Str} {k : Nat} {dsp : DSp} {dvs : List V} {rd : DX → DS} (F : At K mg x st dvs) (Sc : FnScope N ps (defScope st)) (len : ∀ ds μ Q E, dsp ds μ Q E → ds.length = ps.length) (hbd : BindOk x x st ps dvs)
    (hbody : ∀ (f : Addr) (Z : Bs) (cdv : Value) (A : Around) (outer : List Env) (s : Shared) (H : Hp) (E : XK) (ED : DX), Room k (A.deeper (envOfC x (defScope st) s.heap.objs.size f cdv)) → Md K Z (cxOf (L2.CX P w) P w K mg base N x (defScope st) f cdv A outer s H E) (fun cls d _ H => E cls d H) (XDE ED) → PySem.W.codeIn K cdv x = true → ∃ t, PDSs K Z (cxOf (L2.CX P w) P w K mg base N x (defScope st) f cdv A outer s H E) (defBody st) t (rd ED))
    (hread : ∀ ds μ Q E, dsp ds μ Q E → rd E { nx := fun _ μ' => Q .non μ', rt := Q } (startD N.length ds) μ) : Cal P w K mg base (k + 1) x ps dvs dsp := by
  obtain ⟨f, fd, G, hm⟩ := F.ex
  exact ⟨f, fd, fn_ofX G Sc len (hbody f) hread, hm, G.kp, binds_of G hbd⟩
theorem calM_of {P : Program} {w : World} {mg : Str → Option Value} {base : Heap} {C m qual : Str} {st : Stmt} {N ps : List Str} {k : Nat} {dsp : DSp} {dvs : List V} {rd : DX → DS} (F : AtM K C m qual st dvs) (Sc : FnScope N ps (defScope st)) (len : ∀ ds μ Q E, dsp ds μ Q E → ds.length = ps.length) (hbd : BindOk m qual st ps dvs)
    (hbody : ∀ (f : Addr) (Z : Bs) (cdv : Value) (A : Around) (outer : List Env) (s : Shared) (H : Hp) (E : XK) (ED : DX), Room k (A.deeper (envOfC qual (defScope st) s.heap.objs.size f cdv)) → Md K Z (cxOf (L2.CX P w) P w K mg base N qual (defScope st) f cdv A outer s H E) (fun cls d _ H => E cls d H) (XDE ED) → PySem.W.codeIn K cdv qual = true → ∃ t, PDSs K Z (cxOf (L2.CX P w) P w K mg base N qual (defScope st) f cdv A outer s H E) (defBody st) t (rd ED))
    (hread : ∀ ds μ Q E, dsp ds μ Q E → rd E { nx := fun _ μ' => Q .non μ', rt := Q } (startD N.length ds) μ) : CalM P w K mg base (k + 1) C m ps dvs dsp := by
  obtain ⟨f, fd, G, hm, hc⟩ := F.ex
  exact ⟨f, fd, fn_ofX G Sc len (hbody f) hread, hm, hc, binds_of G hbd, by
    obtain ⟨oc, od, dV, kV, doc, pm, an, cdv, ct, osl, _, lk, _⟩ := G.ex
    exact ⟨oc, od, osl, lk⟩⟩
theorem calI_of {P : Program} {w : World} {mg : Str → Option Value} {base : Heap} {C qual : Str} {st : Stmt} {N ps : List Str} {k : Nat} {dsp : DSp} {dvs : List V} {rd : DX → DS} (F : AtI K mg C qual st dvs) (Sc : FnScope N ps (defScope st)) (len : ∀ ds μ Q E, dsp ds μ Q E → ds.length = ps.length) (hbd : BindOk "__init__" qual st ps dvs)
    (hbody : ∀ (f : Addr) (Z : Bs) (cdv : Value) (A : Around) (outer : List Env) (s : Shared) (H : Hp) (E : XK) (ED : DX), Room k (A.deeper (envOfC qual (defScope st) s.heap.objs.size f cdv)) → Md K Z (cxOf (L2.CX P w) P w K mg base N qual (defScope st) f cdv A outer s H E) (fun cls d _ H => E cls d H) (XDE ED) → PySem.W.codeIn K cdv qual = true → ∃ t, PDSs K Z (cxOf (L2.CX P w) P w K mg base N qual (defScope st) f cdv A outer s H E) (defBody st) t (rd ED))
    (hread : ∀ ds μ Q E, dsp ds μ Q E → rd E { nx := fun _ μ' => Q .non μ', rt := Q } (startD N.length ds) μ) : CalI P w K mg base (k + 1) C ps dvs dsp := by
  obtain ⟨f, fd, G, hm, hc⟩ := F.ex
  exact ⟨f, fd, fn_ofX G Sc len (hbody f) hread, hm, hc, binds_of G hbd⟩
/-! ### what a def leaves behind may be forgotten -/
def dspW (dsp : DSp) : DSp := fun ds μ Q E => ∃ Q0 E0, dsp ds μ Q0 E0 ∧ Q = Qw Q0 ∧ E = Ew E0
theorem up_w {dsp : DSp} {vs : List V} {H : Hp} {Q : VK} {E : XK} (h : up K dsp vs H Q E) : up K (dspW dsp) vs H Q E := by
  obtain ⟨S, μ, ds, QD, ED, r, hl, hs, kq, kx⟩ := h
  refine ⟨S, μ, ds, Qw QD, Ew ED, r, hl, ⟨QD, ED, hs, rfl, rfl⟩, fun S' μ' H' v d g r' hv q => ?_, fun S' μ' H' c fs a g r' hx q => ?_⟩
  · obtain ⟨μ0, l, q⟩ := q
    exact kq S' μ0 H' v d (g.le l) (r'.leM l) hv q
  · obtain ⟨μ0, l, q⟩ := q
    exact kx S' μ0 H' c fs a (g.le l) (r'.leM l) hx q
theorem FnG.w {P : Program} {w : World} {mg : Str → Option Value} {base : Heap} {CX : CXT} {k : Nat} {f : Addr} {fd : FuncData} {ps : List Str} {dsp : DSp} (F : FnG P w K mg base CX k f fd ps (up K (dspW dsp))) : FnG P w K mg base CX k f fd ps (up K dsp) :=
  ⟨fun vs H Q E h => F.ln vs H Q E (up_w h), fun A oe t H ar us vs Q E g r e b v h => F.go A oe t H ar us vs Q E g r e b v (up_w h)⟩
theorem Cal.w {P : Program} {w : World} {mg : Str → Option Value} {base : Heap} {k : Nat} {x : Str} {ps : List Str} {dvs : List V} {dsp : DSp} (C : Cal P w K mg base k x ps dvs (dspW dsp)) : Cal P w K mg base k x ps dvs dsp := by
  obtain ⟨f, fd, F, r⟩ := C.ex
  exact ⟨f, fd, F.w, r⟩
theorem CalM.w {P : Program} {w : World} {mg : Str → Option Value} {base : Heap} {k : Nat} {C x : Str} {ps : List Str} {dvs : List V} {dsp : DSp} (c : CalM P w K mg base k C x ps dvs (dspW dsp)) : CalM P w K mg base k C x ps dvs dsp := by
  obtain ⟨f, fd, F, r⟩ := c.ex
  exact ⟨f, fd, F.w, r⟩
theorem CalI.w {P : Program} {w : World} {mg : Str → Option Value} {base : Heap} {k : Nat} {C : Str} {ps : List Str} {dvs : List V} {dsp : DSp} (c : CalI P w K mg base k C ps dvs (dspW dsp)) : CalI P w K mg base k C ps dvs dsp := by
  obtain ⟨f, fd, F, r⟩ := c.ex
  exact ⟨f, fd, F.w, r⟩
/-- the law's own -/
structure Cal0 (P : Program) (w : World) (K : PySem.W.Frag) (mg : Str → Option Value) (base : Heap) (k : Nat) (x : Str) (ps : List Str) (dsp : DSp) : Prop where
  ex : ∃ f fd, FnG P w K mg base CX0 k f fd ps (up K dsp) ∧ mg x = some (.ref f) ∧ (∀ (s : Shared) (us : List Value), us.length = ps.length → BindsTo s fd ⟨us, []⟩ (ps.zip us)) ∧ ∃ oc od osl, K.lookup f = some ⟨oc, od, .func fd, osl⟩
theorem cal0_of {P : Program} {w : World} {mg : Str → Option Value} {base : Heap} {x : Str} {st : Stmt} {N ps : List Str} {k : Nat} {dsp : DSp} {rd : DX → DS} (F : At K mg x st []) (Sc : FnScope N ps (defScope st)) (len : ∀ ds μ Q E, dsp ds μ Q E → ds.length = ps.length) (hbd : BindOk x x st ps [])
    (hbody : ∀ (f : Addr) (Z : Bs) (cdv : Value) (A : Around) (outer : List Env) (s : Shared) (H : Hp) (E : XK), Room k (A.deeper (envOfC x (defScope st) s.heap.objs.size f cdv)) → Md K Z (cxOf CX0 P w K mg base N x (defScope st) f cdv A outer s H E).nox WF (XDE X0) → PySem.W.codeIn K cdv x = true → ∃ t, PDSs K Z (cxOf CX0 P w K mg base N x (defScope st) f cdv A outer s H E).nox (defBody st) t (rd X0))
    (hread : ∀ ds μ Q E, dsp ds μ Q E → rd X0 { nx := fun _ μ' => Q .non μ', rt := Q } (startD N.length ds) μ) : Cal0 P w K mg base (k + 1) x ps dsp := by
  obtain ⟨f, fd, G, hm⟩ := F.ex
  exact ⟨f, fd, fn_of0 G Sc len (hbody f) hread, hm, G.bindsA hbd, by
    obtain ⟨oc, od, dV, kV, doc, pm, an, cdv, ct, osl, _, lk, _⟩ := G.ex
    exact ⟨oc, od, osl, lk⟩⟩
/-! ### a list of the memory -/
def dAppM (da de : DE) : DS := fun DD δ μ => da δ μ fun x δ1 μ1 => (∃ p l, x = .ref p ∧ μ1 p = some (.lst l)) ∧ de δ1 μ1 fun d δ2 μ2 => ∃ p l, x = .ref p ∧ μ2 p = some (.lst l) ∧ l.length < sizeLine ∧ DD.nx δ2 (updM μ2 p (.lst (l ++ [d])))
theorem simAppM {ta te : TE} {da de : DE} (ha : SimE K Z ta da) (h : SimE K Z te de) : SimS K Z (tDrop (tBM K "list" rAppend ta (tCons te tNil))) (dAppM da de) := fun B hB S μ H σ δ E DD rl lf q => by
  refine ha B hB S μ H σ δ _ _ rl (fun S1 μ1 H1 δ1 x dx e1 r1 hx q1 => ?_) q
  obtain ⟨⟨p, l, rfl, hm⟩, q1⟩ := q1
  have hx : x = .ref p := hx
  subst hx
  obtain ⟨_, o, h1, vs, rfl, h2⟩ := r1.r3.mu p _ hm
  refine ⟨.inl ⟨rfl, vs, SqL.of h1⟩, ?_⟩
  refine h B hB S1 μ1 H1 σ δ1 _ _ r1 (fun S2 μ2 H2 δ2 v d e2 r2 hv q2 => ?_) q1
  obtain ⟨p', l', e, hm', hl, q2⟩ := q2
  cases e
  obtain ⟨_, o, h3, ws, rfl, h4⟩ := r2.r3.mu p _ hm'
  obtain ⟨r4, g⟩ := r2.r3.write hm' (o := .lst (ws ++ [v])) (m := .lst (l' ++ [d])) ⟨_, rfl, RepL.append h4 (RepL.one hv)⟩
  exact ⟨p, ws, v, rfl, rfl, h3, by rw [RepL.length h4]; exact hl, lf.nx _ _ _ σ δ2 (r2.grow g r4) q2⟩
theorem s_appM {o e : Expr} {p2 p3 p4 : Pos} {ta te : TE} {da de : DE} (ho : PD K Z X o ta da) (he : PD K Z X e te de) (hbase : attributeBase o "append" X.env (eval o X.env) = eval o X.env := by rfl)
    (hfew : ((backTo p3 (starEach [e] X.env)).all (fun x => !x.1) && (backToKw p3 (keywordEach [] X.env)).all (fun x => x.1.isSome) && decide ([e].length + ([] : List Keyword).length + (if ([] : List Keyword).isEmpty then 0 else 1) < 30)) = true := by rfl)
    (hline : (p2.endLine == p3.line) = true := by rfl) (hs : starEach [e] X.env = (false, eval e X.env) :: starEach [] X.env := by rfl) (hplain : (backTo p3 (starEach [] X.env)).any (·.1) = false := by rfl) (hsw : swapsWith (.Call (.Attribute o "append" p2) [e] [] p3) none p4.line X.env = pure false := by rfl) (hk : X.K = K := by rfl) :
    PDS K Z X (.Expr (.Call (.Attribute o "append" p2) [e] [] p3) p4) (tDrop (tBM K "list" rAppend ta (tCons te tNil))) (dAppM da de) := by
  subst hk
  exact ⟨ps_expr (pe_bm PySem.F.plainAttrs_list PySem.F.slot_list_append PySem.F.type_list_append mt_append ho.p (pa_cons he.p pa_nil hs) hbase hfew hline hs hplain) hsw, simAppM ho.s he.s⟩
theorem s_setFldP {o e : Expr} {f C : Str} {pos p2 : Pos} {ta te : TE} {da de : DE} (hc : Cls K (He.ga K C)) (hn : NoAttr K (He.ga K C) f) (ho : PD K Z X o ta da) (he : PD K Z X e te de) (hs : swapsWith e (some (.Attribute o f p2)) pos.line X.env = pure false := by rfl) (hk : X.K = K := by rfl) :
    PDS K Z X (.Assign [.Attribute o f p2] e pos) (sFld K ta te f) (dSetFld C f da de) := by
  subst hk
  exact s_setFld hc hn ho he (ps_fld ho.p he.p hs)
end Dl

namespace Dl
open PySem PySem.Spec PyProof.Rows L2
variable {X : Cx} {K : PySem.W.Frag} {Z : Bs}
/-! ### own exceptions -/
structure Ec (K : PySem.W.Frag) (mg : Str → Option Value) (C : Str) : Prop where
  q : PySem.W.excIn K (He.ga K C) He.veBase "ValueError.__new__" = true
  kp : PySem.W.keepIn K (.ref (He.ga K C)) = true
  r1 : PySem.W.subIn K (.ref (He.ga K C)) (.type "BaseException") = some true
  r2 : PySem.W.typeIn K (.ref (He.ga K C)) = some (.type "type")
  g : mg C = some (.ref (He.ga K C))
theorem pmk_none {C : Str} {p pos : Pos} (c : Ec X.K X.mg C) (hg : Gl X C) (hdb : (C == ("__debug__" : Str)) = false) : PMk X (.Call (.Name C p) [] [] pos) (fun _ H Q => Q (.ref (He.ga X.K C)) none H) := fun pins s σ H Q I h =>
  wpAny_Call_Name_kw (ld_glob I hg c.g (PySem.W.callWith_K0 I.kIn c.kp (by
    obtain ⟨_, _, _, _, _, _, _, _, _, _, _, _, _, _, _, _, _, h1, h2, h3, h4⟩ := exc_obj I.kIn c.q
    show wpAny _ _ (call _ []) _ _ _
    exact wpAny_call_exc_subT PySem.F.excBase_ValueError h4 h1 h2 h3 (fun h' e hm => mk_of I hm (raises_own c.r1 c.r2) h (I.hok.gone hm.new)) (by show 0 ≤ sizeLine; exact Nat.zero_le _))) hdb)
def dRaise (XD : DXW) (C : Str) : DS := fun _ δ μ => XD C none δ μ
theorem s_raise {C : Str} {p pos pos' : Pos} {W : WX} {XD : DXW} (M : Md K Z X W XD) (c : Ec K X.mg C) (hc : X.calm = true := by rfl) (hk : X.K = K := by rfl) (hg : Gl X C := by rfl) (hdb : (C == ("__debug__" : Str)) = false := by decide) :
    PDS K Z X (.Raise (some (.Call (.Name C p) [] [] pos)) none pos') (fun _ σ H => W (.ref (He.ga K C)) none σ H) (dRaise XD C) := by
  subst hk
  exact ⟨ps_raise hc M.tk (pmk_none c hg hdb), fun B hB S μ H σ δ E DD rl lf q => M.lx B S μ H σ δ C none none hB rl rfl q⟩
/-! ### a caught exception stays as an object -/
theorem track {pins : List (Addr × Obj)} {σ : L2.St} {H : Hp} {s : Shared} (I : Inv X pins σ H s) {a : Addr} {oe : Obj} {cls : Value} {d : Option Addr} {vs : Array Value} (ha : s.heap.get? a = some oe) (hz : Zc cls d oe) (hf : oe.data = .fields vs) (na : H a = none) (nL : a ≠ X.env.locals) (n0 : X.s_0.heap.get? a = none) (np : ∀ q ∈ X.pn ++ pins, q.1 ≠ a) :
    Inv X pins σ (upd H a (ExO a cls d)) s := by
  have other : ∀ b u, H b = some u → b ≠ a := fun b u e z => by rw [z, na] at e; cases e
  refine ⟨I.ok, I.os, I.bare, ⟨I.base.keep, I.base.slot, fun b o e n x => ?_, I.base.there, fun b xs e => ?_, fun b o u e => ?_, fun b ps e => ?_⟩, I.loc, I.cell, ?_, fun x c e => ?_, fun q hq => ?_, I.hok.laidN (fun _ _ e => e) na ?_, I.len⟩
  · rw [upd_ne (fun z => by rw [z, n0] at e; cases e)]; exact I.base.free b o e n x
  · have z := I.base.tups b xs e
    rw [upd_ne (other b _ z)]; exact z
  · have z := I.base.frzs b o u e
    rw [upd_ne (other b _ z)]; exact z
  · obtain ⟨more, z⟩ := I.base.tbls b ps e
    exact ⟨more, by rw [upd_ne (other b _ z)]; exact z⟩
  · rw [upd_ne (fun z => nL z.symm)]; exact I.free
  · obtain ⟨v, o, e1, e2⟩ := I.cell x c e
    rw [upd_ne (fun z => by rw [z, ha] at e1; cases e1; rw [hf] at e2; cases e2)]; exact I.freeC x c e
  · obtain ⟨h1, h2, h3⟩ := I.pin q hq
    exact ⟨h1, by rw [upd_ne (np q hq)]; exact h2, h3⟩
  · exact ⟨⟨oe, ha, hz.1, hz.2, vs, hf⟩, ⟨oe, ha⟩, fun h1 h2 ⟨o, e, r⟩ k => ⟨o, k o e, r⟩⟩
theorem toSuite {pins : List (Addr × Obj)} {σ : L2.St} {H : Hp} {s : Shared} (I : Inv X pins σ H s) (a : Addr) : Inv (X.suite a (X.pn ++ pins)) [] σ H s :=
  ⟨I.ok.suite _ _, I.os, I.bare, I.base, I.loc, I.cell, I.free, I.freeC, fun p hp => I.pin p (by rwa [List.append_nil] at hp), I.hok, I.len⟩
theorem ofSuite {pins pn' : List (Addr × Obj)} {σ : L2.St} {H : Hp} {s : Shared} {a : Addr} (I : Inv (X.suite a (X.pn ++ pins)) pn' σ H s) (ok : X.Ok) : Inv X pins σ H s :=
  ⟨ok, I.os, I.bare, I.base, I.loc, I.cell, I.free, I.freeC, fun p hp => I.pin p (List.mem_append_left _ hp), I.hok, I.len⟩
/-- what 'except x as n' wishes: the exception stays, slot i is n's -/
def wTr (K : PySem.W.Frag) (c : Value) (i : Nat) (ts : TS) (Wout : WX) (D : Ends) : WX := fun cls d σ H => ∃ b, PySem.W.exmOne K cls c = some b ∧
  (b = true → ∀ a, H a = none → ts ⟨fun σ' H' => D.nx (σ'.set i none) H', D.rt, fun σ' H' => D.bk (σ'.set i none) H', fun σ' H' => D.ct (σ'.set i none) H'⟩ (σ.set i (some (.ref a))) (upd H a (ExO a cls d))) ∧ (b = false → Wout cls d σ H)
theorem ps_tryT {x n : Str} {c : Value} {i : Nat} {body suite : List Stmt} {b₀ : Stmt} {np pos pos' : Pos} {tb : WX → TS} {ts : TS} {Wout : WX} (hs : X.stack = X.env :: X.outer) (hf : X.env.frame = some X.env.locals) (hx : X.ex = []) (hN : X.N.Nodup) (hi : X.N[i]? = some n) (hln : X.env.kindOf n = some .local) (hc : Names X x c) (tk : Takes X Wout)
    (hb : ∀ W pn xe, Takes (X.tr pn xe) W → PassesOwn (model X.prog X.w) X.A X.env xe → PSs (X.tr pn xe) body (tb W)) (hsu : ∀ a pn, PSs (X.suite a pn) (b₀ :: suite) ts) :
    PS X (.Try body [.ExceptHandler (some (.Name x np)) (some n) (b₀ :: suite) pos'] [] [] pos) (fun D σ H => tb (wTr X.K c i ts Wout D) D σ H) := by
  refine ⟨fun pins s σ H D I h => wpAny_Try_except (wpAny_mono ((hb (wTr X.K c i ts Wout D) (X.pn ++ pins) (fun e t1 => wpAny (model X.prog X.w) X.A (noteFrame e X.env) (fun _ t2 => wpAny (model X.prog X.w) X.A (setFlight e none) (fun _ t3 =>
    wpAny (model X.prog X.w) X.A (handleBy e X.env [.ExceptHandler (some (.Name x np)) (some n) (b₀ :: suite) pos']) (SP X pins D) X.xe t3) X.xe t2) X.xe t1) (fun u t xx => ?_) PassesOwn.looking).run [] s σ H D (I.toTry _) h) (fun f t q => ?_) (fun _ _ q => q))⟩
  · obtain ⟨a, B, sI, pn2, σ2, H2, cls, d, rfl, J0, nb, up, sky, na, os, ag, b, e1, yes, no⟩ := xx
    have J : Inv X pins σ2 H2 sI := J0.ofTry I.ok
    have frm : X.A.frames = some (X.env :: X.outer) := by rw [I.ok.frames, hs]
    rw [show (X.tr (X.pn ++ pins) _).stack = X.env :: X.outer from hs] at sky
    refine Sky.land Zc.steady frm hf sky fun h3 fl up3 => ?_
    have J3 : Inv X pins σ2 H2 { t with heap := h3 } := J.landed nb fl.1 (up.trans up3) os ag
    obtain ⟨oe, vs, he, hz, hd⟩ := fl.there
    have out : a ∉ frs (X.env :: X.outer) := fun hm => by
      obtain ⟨_, o2, e2, nf⟩ := fl.2.2.1.mem hm
      rw [he] at e2; cases e2
      exact nf _ hd
    have noL : a ≠ X.env.locals := fun z => out (List.mem_filterMap.mpr ⟨X.env, List.mem_cons_self, by rw [hf, z]⟩)
    have noI : sI.heap.get? a = none := by
      cases e : sI.heap.get? a with
      | none => rfl
      | some o =>
        have z := nb a o e (by show a ∉ frs X.stack; rw [hs]; exact out)
        rw [fl.2.1] at z; cases z
    have no0 : X.s_0.heap.get? a = none := by
      cases e : X.s_0.heap.get? a with
      | none => rfl
      | some o =>
        obtain ⟨o2, z⟩ := J.base.there a o e (by rw [hx]; intro q; cases q)
        rw [noI] at z; cases z
    have noP : ∀ q ∈ X.pn ++ pins, q.1 ≠ a := fun q hq z => by
      have y := (J.pin q hq).1
      rw [z, noI] at y; cases y
    have look : PySem.W.Looks (model X.prog X.w) h3 (typeOf (.ref a)) cls := fun _ _ _ _ k q => wpAny_typeOf_ref (k _ _ he) (by rw [hz.1]; exact q)
    have mat := PySem.W.exm_one (M := model X.prog X.w) J3.kIn look e1
    have S3 := toSuite J3 a
    have nam : ∀ {Q : Value → Shared → Prop} {E : Value → Shared → Prop}, Q c { t with heap := h3 } → wpAny (model X.prog X.w) (X.A.mark (some (.ref a))) (eval (.Name x np) X.env) Q E { t with heap := h3 } := fun {Q E} q => by
      obtain ⟨g1, g2, g3 | ⟨g3, g4, g5⟩⟩ := hc
      · exact ld_glob (X := X.suite a (X.pn ++ pins)) S3 g1 g3 q g2
      · exact ld_blt (X := X.suite a (X.pn ++ pins)) S3 g1 g3 g4 q g5 g2
    refine wpAny_handleBy_cons (codeAny_handlers_test (nam (mat.here ?_))) (fun z => by cases z)
    cases b with
    | true =>
      refine codeAny_handlers_suite_as (HandSPX.lands_againZ fl fun h4 fl4 up4 => ?_)
      obtain ⟨oe4, vs4, he4, hz4, hd4⟩ := fl4.there
      have J4 : Inv X pins σ2 H2 { t with heap := h4 } := J.landed nb fl4.1 ((up.trans up3).trans up4) os ag
      have S4 := toSuite (track J4 he4 hz4 hd4 na noL no0 noP) a
      refine store_ok (X := X.suite a (X.pn ++ pins)) (v := .ref a) S4 hN hi (.inl hln) rfl (fun t5 S5 => ?_) (.inr hln)
      refine wpAny_mono ((hsu a (X.pn ++ pins)).run [] t5 _ _ _ S5 (yes rfl a na)) (fun f t6 q => ?_) (fun _ _ z => z.elim)
      have fin : ∀ {σ6 : L2.St} {H6 : Hp} {Q : Shared → Prop}, Inv (X.suite a (X.pn ++ pins)) [] σ6 H6 t6 → (∀ t7, Inv X pins (σ6.set i none) H6 t7 → Q t7) →
          wpAny (model X.prog X.w) X.A (do bindName X.env n .none; unbindBehindTheSuite X.env n pos') (fun _ t7 => Q t7) X.xe t6 := fun S6 hq => gone_ok (ofSuite S6 I.ok) hN hi hln hq
      cases f with
      | next => obtain ⟨σ6, H6, S6, q⟩ := q; exact fin S6 fun _ J7 => ⟨_, _, J7, q⟩
      | brk => obtain ⟨σ6, H6, S6, q⟩ := q; exact fin S6 fun _ J7 => ⟨_, _, J7, q⟩
      | cont => obtain ⟨σ6, H6, S6, q⟩ := q; exact fin S6 fun _ J7 => ⟨_, _, J7, q⟩
      | ret u => obtain ⟨v, σ6, H6, S6, r, q⟩ := q; exact fin S6 fun _ J7 => ⟨_, _, _, J7, r, q⟩
    | false =>
      show wpAny _ X.A (handleBy (.ref a) X.env []) _ _ _
      refine wpAny_handleBy_nil ?_
      have fin : wpAny (model X.prog X.w) X.A (setFlight (.ref a) X.env.frame) (fun _ t4 => wpAny (model X.prog X.w) X.A (throw (.ref a) : Sem Flow) (SP X pins D) X.xe t4) X.xe { t with heap := h3 } := by
        rw [hf]
        exact HandSPX.setFlight_upZ fl fun h4 hh up4 => wpAny_throw (tk _ _ ⟨a, B, sI, pins, σ2, H2, cls, d, rfl, J, nb, (up.trans up3).trans up4, .inr (.inr (by rw [hs]; exact hh)), na, os, ag, no rfl⟩)
      obtain ⟨_, _, _, oe', vs', T, oT, _, he', _, hd', h1, _⟩ := id fl
      unfold PySem.passOn
      refine wpAny_bind (wpAny_field he' hd' h1 ?_)
      rw [if_neg (by simp)]
      first | exact wpAny_bind (wpAny_pure (wpAny_bind fin)) | exact wpAny_bind fin
  · cases f with
    | next => obtain ⟨σ2, H2, J, q⟩ := q; exact wpAny_execs_nil ⟨σ2, H2, J.ofTry I.ok, q⟩
    | brk => obtain ⟨σ2, H2, J, q⟩ := q; exact ⟨σ2, H2, J.ofTry I.ok, q⟩
    | cont => obtain ⟨σ2, H2, J, q⟩ := q; exact ⟨σ2, H2, J.ofTry I.ok, q⟩
    | ret u => obtain ⟨v, σ2, H2, J, r, q⟩ := q; exact ⟨v, σ2, H2, J.ofTry I.ok, r, q⟩
/-! ### which class is under which -/
/-- the exception classes that a law has -/
structure Exs (K : PySem.W.Frag) (EX : List Str) : Prop where
  m : ∀ c ∈ EX, ∀ C ∈ EX, PySem.W.exmOne K (.ref (He.ga K c)) (.ref (He.ga K C)) = some (isb c C)
def excD (c : Str) : XF → D
  | none => .exc c [] false
  | some fs => .exc c fs true
def dTry (EX : List Str) (CN : Str) (i : Nat) (XD : DXW) (db : DXW → DS) (dsu : DS) : DS := fun DD δ μ =>
  db (fun c fs δ1 μ1 => EX.contains c = true ∧ if isb c CN = true then dsu ⟨fun δ2 μ2 => DD.nx (δ2.set i .no) μ2, DD.rt, fun δ2 μ2 => DD.bk (δ2.set i .no) μ2, fun δ2 μ2 => DD.ct (δ2.set i .no) μ2⟩ (δ1.set i (.val (excD c fs))) μ1 else XD c fs δ1 μ1) DD δ μ
/-- an exception becomes a value -/
theorem Rel.keep {B : Bs} {S : Hp} {μ : Mem} {H : Hp} {σ : L2.St} {δ : Ss} (r : Rel K B S μ H σ δ) {a : Addr} {c : Str} {fs : XF} {d : Option Addr} (ha : H a = none) (hx : XRep K S H fs d) :
    ∃ S', Rel K B S' μ (upd H a (ExO a (.ref (He.ga K c)) d)) σ δ ∧ Rep K S' (excD c fs) (.ref a) := by
  obtain ⟨r3, g⟩ := r.r3.alloc (o := ExO a (.ref (He.ga K c)) d) ha
  refine ⟨_, r.grow g r3, ?_⟩
  cases fs with
  | none =>
    have hx : d = none := hx
    subst hx
    exact ⟨a, rfl, upd_same, rfl⟩
  | some fs =>
    obtain ⟨x, vs, rfl, h1, h2⟩ := hx
    exact ⟨a, x, vs, rfl, upd_same, g.ex _ _ h1, RepF.mono g.ex _ _ h2⟩
theorem md_fake {W : WX} {XD : DXW} (hs : X.stack = X.env :: X.outer) (hf : X.env.frame = some X.env.locals) (lx : LiftX K Z W XD) (g : X.A.guards = some []) : Md K Z (X.tr [] (fun e t => wpAny (model X.prog X.w) X.A (noteFrame e X.env) (fun _ _ => True) (fun _ _ => True) t)) W XD := by
  refine ⟨fun u t xx => ?_, PassesOwn.looking, lx, g⟩
  obtain ⟨a, B, sI, pn2, σ2, H2, cls, d, rfl, J0, nb, up, sky, na, os, ag, w⟩ := xx
  have frm : X.A.frames = some (X.env :: X.outer) := (show X.A.frames = some X.stack from J0.ok.frames).trans (by rw [hs])
  rw [show (X.tr [] _).stack = X.env :: X.outer from hs] at sky
  exact wpAny_mono (Sky.land (Q := fun _ _ => True) (E₁ := fun _ _ => True) Zc.steady frm hf sky fun _ _ _ => trivial) (fun _ _ _ => trivial) fun _ _ _ => trivial
theorem s_try {x n : Str} {i : Nat} {EX : List Str} {body suite : List Stmt} {b₀ : Stmt} {np pos pos' : Pos} {tb : WX → TS} {ts : TS} {W : WX} {XD : DXW} {db : DXW → DS} {dsu : DS} (M : Md K Z X W XD) (hE : Exs K EX) (hN : X.N.Nodup) (hm : X.mg x = some (.ref (He.ga K x)))
    (hb : ∀ (Z' : Bs) (W : WX) (XD : DXW) (pn : List (Addr × Obj)) (xe : Value → Shared → Prop), Md K Z' (X.tr pn xe) W XD → PDSs K Z' (X.tr pn xe) body (tb W) (db XD)) (hsu : ∀ (Z' : Bs) (a : Addr) (pn : List (Addr × Obj)), PDSs K Z' (X.suite a pn) (b₀ :: suite) ts dsu)
    (hx : EX.contains x = true := by decide +kernel) (hi : X.N[i]? = some n := by rfl) (hln : X.env.kindOf n = some .local := by rfl) (hk : X.K = K := by rfl) (hg : Gl X x := by rfl) (hdb : (x == ("__debug__" : Str)) = false := by decide) (hs : X.stack = X.env :: X.outer := by rfl) (hf : X.env.frame = some X.env.locals := by rfl) (hex : X.ex = [] := by rfl) :
    PDS K Z X (.Try body [.ExceptHandler (some (.Name x np)) (some n) (b₀ :: suite) pos'] [] [] pos) (fun D σ H => tb (wTr K (.ref (He.ga K x)) i ts W D) D σ H) (dTry EX x i XD db dsu) := by
  subst hk
  refine ⟨ps_tryT hs hf hex hN hi hln ⟨hg, hdb, .inl hm⟩ M.tk (fun W' pn xe h1 h2 => (hb ⟨fun _ => none, fun _ => none, fun _ => none, fun _ => none, fun _ => none⟩ W' (fun _ _ _ _ => False) pn xe ⟨h1, h2, (fun _ _ _ _ _ _ _ _ _ _ _ _ z => z.elim), M.gd⟩).p) fun a pn => (hsu Z a pn).p, fun B hB S μ H σ δ E DD rl lf q => ?_⟩
  refine (hb B _ _ _ _ (md_fake hs hf (fun B' S1 μ1 H1 σ1 δ1 c fs d hB' r1 hx1 q1 => ?_) M.gd)).s B (SameB.refl B) S μ H σ δ E DD rl lf q
  obtain ⟨hc, q1⟩ := q1
  refine ⟨isb c x, hE.m c (by simpa using hc) x (by simpa using hx), fun e a ha => ?_, fun e => ?_⟩
  · rw [if_pos e] at q1
    obtain ⟨S2, r2, hr⟩ := (r1.back hB').keep (c := c) ha hx1
    refine (hsu B a []).s B (SameB.refl B) S2 μ1 _ _ _ _ ⟨fun δ2 μ2 => DD.nx (δ2.set i .no) μ2, DD.rt, fun δ2 μ2 => DD.bk (δ2.set i .no) μ2, fun δ2 μ2 => DD.ct (δ2.set i .no) μ2⟩ (r2.set hr) ⟨fun S3 μ3 H3 σ3 δ3 r3 q3 => lf.nx S3 μ3 H3 _ _ r3.forget q3, lf.rt, fun S3 μ3 H3 σ3 δ3 r3 q3 => lf.bk S3 μ3 H3 _ _ r3.forget q3, fun S3 μ3 H3 σ3 δ3 r3 q3 => lf.ct S3 μ3 H3 _ _ r3.forget q3⟩ q1
  · rw [if_neg (by rw [e]; decide)] at q1
    exact M.lx B' S1 μ1 H1 σ1 δ1 c fs d (hB.trans hB') r1 hx1 q1
/-- .. without a name -/
def dTry0 (EX : List Str) (CN : Str) (XD : DXW) (db : DXW → DS) (dsu : DS) : DS := fun DD δ μ =>
  db (fun c fs δ1 μ1 => EX.contains c = true ∧ if isb c CN = true then dsu DD δ1 μ1 else XD c fs δ1 μ1) DD δ μ
theorem s_try0 {x : Str} {EX : List Str} {body suite : List Stmt} {b₀ : Stmt} {np pos pos' : Pos} {tb : WX → TS} {ts : TS} {W : WX} {XD : DXW} {db : DXW → DS} {dsu : DS} (M : Md K Z X W XD) (hE : Exs K EX) (hm : X.mg x = some (.ref (He.ga K x)))
    (hb : ∀ (Z' : Bs) (W : WX) (XD : DXW) (pn : List (Addr × Obj)) (xe : Value → Shared → Prop), Md K Z' (X.tr pn xe) W XD → PDSs K Z' (X.tr pn xe) body (tb W) (db XD)) (hsu : ∀ (Z' : Bs) (a : Addr) (pn : List (Addr × Obj)), PDSs K Z' (X.suite a pn) (b₀ :: suite) ts dsu)
    (hx : EX.contains x = true := by decide +kernel) (hk : X.K = K := by rfl) (hg : Gl X x := by rfl) (hdb : (x == ("__debug__" : Str)) = false := by decide) (hs : X.stack = X.env :: X.outer := by rfl) (hf : X.env.frame = some X.env.locals := by rfl) :
    PDS K Z X (.Try body [.ExceptHandler (some (.Name x np)) none (b₀ :: suite) pos'] [] [] pos) (fun D σ H => tb (wOnly K (.ref (He.ga K x)) (fun _ _ _ => ts) W D) D σ H) (dTry0 EX x XD db dsu) := by
  subst hk
  refine ⟨ps_try_only hs hf ⟨hg, hdb, .inl hm⟩ M.tk (fun W' pn xe h1 h2 => (hb ⟨fun _ => none, fun _ => none, fun _ => none, fun _ => none, fun _ => none⟩ W' (fun _ _ _ _ => False) pn xe ⟨h1, h2, (fun _ _ _ _ _ _ _ _ _ _ _ _ z => z.elim), M.gd⟩).p) fun a oe cls d pn _ _ => (hsu Z a _).p, fun B hB S μ H σ δ E DD rl lf q => ?_⟩
  refine (hb B _ _ _ _ (md_fake hs hf (fun B' S1 μ1 H1 σ1 δ1 c fs d hB' r1 hx1 q1 => ?_) M.gd)).s B (SameB.refl B) S μ H σ δ E DD rl lf q
  obtain ⟨hc, q1⟩ := q1
  refine ⟨isb c x, hE.m c (by simpa using hc) x (by simpa using hx), fun e a ha => ?_, fun e => ?_⟩
  · rw [if_pos e] at q1
    exact (hsu B a []).s B (SameB.refl B) S1 μ1 _ _ _ _ _ (r1.back hB') lf q1
  · rw [if_neg (by rw [e]; decide)] at q1
    exact M.lx B' S1 μ1 H1 σ1 δ1 c fs d (hB.trans hB') r1 hx1 q1
/-! ### isinstance with an own class -/
/-- an own exception class, as isinstance asks it -/
structure Ins (K : PySem.W.Frag) (D : Addr) : Prop where
  ha : PySem.W.findIn K (.ref D) "__class__" = some (some (.builtin "object.__class__"))
  hn : PySem.W.specialIn K (.builtin "object.__class__") "__get__" = some (some (.builtin "getset_descriptor.__get__"))
  ht : PySem.W.takesIn K (.builtin "object.__class__") = some true
  hm : PySem.W.mroIn K D (.type "object") = some true
def rIsX (K : PySem.W.Frag) : List V → Hp → VK → Prop := fun xs H Q => ∃ (a D : Addr) (c : V) (u : Value) (b : Bool), xs = [.ref a, c] ∧ ClsV c u ∧ H a = some (ExO a (.ref D) none) ∧ ExcC K D ∧ PySem.W.kitOne K (.ref D) u = some b ∧ Q (.bl b) H
theorem call_isX : CallR X (.builtin "isinstance") (rIsX X.K) := fun pins s σ H xs us Q I r h => by
  obtain ⟨a, D, c, u, b, rfl, k, ho, C, e, q⟩ := h
  obtain ⟨u1, u2, rfl, r1, r2⟩ := vals2 r
  have e2 := k.eq r2
  subst e2
  cases (show u1 = Value.ref a from r1)
  obtain ⟨⟨⟨oc, od, oda, osl⟩, h1, h2, h3, vs, h4⟩, _⟩ := I.hok a _ ho
  dsimp only at h2 h3 h4
  subst h2 h3 h4
  have at_ : PySem.W.InstAt s.heap a _ D none := ⟨h1, rfl, rfl, trivial⟩
  exact PySem.W.kia_one (PySem.W.handS_kitx_exc C.hg C.hk C.hs C.hd C.ha C.hn C.ht C.hm) I.kIn at_ e (fun z => nomatch z) fun tk => ⟨.bl b, H, I.tok tk, rfl, q⟩
def rIsU (K : PySem.W.Frag) : List V → Hp → VK → Prop := fun xs H Q => rIsi K xs H Q ∨ rIsX K xs H Q
theorem call_isU : CallR X (.builtin "isinstance") (rIsU X.K) := fun pins s σ H xs us Q I r h => by
  rcases h with h | h
  · exact call_isi pins s σ H xs us Q I r h
  · exact call_isX pins s σ H xs us Q I r h
/-- the classes of a law: own exceptions EX, others CL -/
structure Css (K : PySem.W.Frag) (EX CL : List Str) : Prop where
  e : ∀ c ∈ EX, ExcC K (He.ga K c)
  c : ∀ c ∈ CL, Cls K (He.ga K c) ∧ Ins K (He.ga K c)
  k : ∀ c ∈ EX ++ CL, ∀ C ∈ EX ++ CL, PySem.W.kitOne K (.ref (He.ga K c)) (.ref (He.ga K C)) = some (isb c C)
  b : ∀ C ∈ EX ++ CL, ∀ t ∈ ["NoneType", "bool", "int", "str", "tuple", "list", "dict"], PySem.W.kitOne K (.type t) (.ref (He.ga K C)) = some false
/-- the class of a value -/
def clsD (EX CL : List Str) (CN : Str) (μ : Mem) : D → Option Bool
  | .exc c _ false => if EX.contains c then some (isb c CN) else none
  | .obj c _ => if CL.contains c then some (isb c CN) else none
  | .ref p => match μ p with
    | some (.obj c _) => if CL.contains c then some (isb c CN) else none
    | _ => none
  | .non => some false
  | .bl _ => some false
  | .int _ => some false
  | .str _ => some false
  | .tup _ => some false
  | .lst _ => some false
  | .dct _ => some false
  | _ => none
def dIsC (EX CL : List Str) (CN : Str) (de : DE) : DE := fun δ μ Q => de δ μ fun x δ1 μ1 => ∃ b, clsD EX CL CN μ1 x = some b ∧ Q (.bl b) δ1 μ1
theorem mem_of_contains {l : List Str} {c : Str} (h : l.contains c = true) : c ∈ l := by simpa using h
theorem sim_isC {EX CL : List Str} {CN : Str} (A : Css K EX CL) (hC : CN ∈ EX ++ CL) {S : Hp} {μ : Mem} {H : Hp} (r : R3 K S μ H) {d : D} {v : V} {b : Bool} (hv : Rep K S d v) (h : clsD EX CL CN μ d = some b) {Q : VK} (q : Q (.bl b) H) : rIsU K [v, .ref (He.ga K CN)] H Q := by
  have bi : ∀ t, tyD d = some t → t ∈ ["NoneType", "bool", "int", "str", "tuple", "list", "dict"] → b = false → rIsU K [v, .ref (He.ga K CN)] H Q := fun t h1 h2 h3 => .inl ⟨v, _, .type t, .ref _, b, rfl, .own _, tyx_of r.ex hv h1, by rw [h3]; exact A.b CN hC t h2, q⟩
  have ob : ∀ c fs, objOf μ d = some (c, fs) → CL.contains c = true → b = isb c CN → rIsU K [v, .ref (He.ga K CN)] H Q := fun c fs h1 h2 h3 => by
    obtain ⟨a, dx, gs, rfl, h4, h5⟩ := obj_is r hv h1
    obtain ⟨h6, h7⟩ := A.c c (mem_of_contains h2)
    exact .inl ⟨.ref a, _, .ref (He.ga K c), .ref _, b, rfl, .own _, .base (.ins h4 h6 h7.ha h7.hn h7.ht h7.hm), by rw [h3]; exact A.k c (List.mem_append_right _ (mem_of_contains h2)) CN hC, q⟩
  cases d with
  | exc c fs own =>
    cases own with
    | true => cases h
    | false =>
      have h : (if EX.contains c then some (isb c CN) else none) = some b := h
      by_cases hc : EX.contains c = true
      · rw [if_pos hc] at h
        cases h
        obtain ⟨a, rfl, h1, _⟩ := hv
        have h2 : H a = some (ExO a (.ref (He.ga K c)) none) := by
          rcases r.ex.at h1 trivial with z | ⟨z, _⟩
          · exact z
          · cases z
        exact .inr ⟨a, He.ga K c, _, .ref _, _, rfl, .own _, h2, A.e c (mem_of_contains hc), A.k c (List.mem_append_left _ (mem_of_contains hc)) CN hC, q⟩
      · rw [if_neg hc] at h; cases h
  | obj c fs =>
    have h : (if CL.contains c then some (isb c CN) else none) = some b := h
    by_cases hc : CL.contains c = true
    · rw [if_pos hc] at h
      exact ob c fs rfl hc (Option.some.inj h).symm
    · rw [if_neg hc] at h; cases h
  | ref p =>
    unfold clsD at h
    dsimp only at h
    split at h
    · rename_i c fs hm
      by_cases hc : CL.contains c = true
      · rw [if_pos hc] at h
        exact ob c fs (by unfold objOf; dsimp only; rw [hm]) hc (Option.some.inj h).symm
      · rw [if_neg hc] at h; cases h
    · cases h
  | non => exact bi _ rfl (by decide) (Option.some.inj h).symm
  | bl _ => exact bi _ rfl (by decide) (Option.some.inj h).symm
  | int _ => exact bi _ rfl (by decide) (Option.some.inj h).symm
  | str _ => exact bi _ rfl (by decide) (Option.some.inj h).symm
  | tup _ => exact bi _ rfl (by decide) (Option.some.inj h).symm
  | lst _ => exact bi _ rfl (by decide) (Option.some.inj h).symm
  | dct _ => exact bi _ rfl (by decide) (Option.some.inj h).symm
  | _ => cases h
theorem d_isC {EX CL : List Str} {CN : Str} {e : Expr} {te : TE} {de : DE} {p p2 pos : Pos} (A : Css K EX CL) (hmC : X.mg CN = some (.ref (He.ga K CN))) (hm : X.mg "isinstance" = none) (he : PD K Z X e te de) (hC : (EX ++ CL).contains CN = true := by decide +kernel) (hg : Gl X "isinstance" := by rfl) (hgC : Gl X CN := by rfl) (hdb : (CN == ("__debug__" : Str)) = false := by decide) (hk : X.K = K := by rfl)
    (h1 : starEach [e, .Name CN p2] X.env = (false, eval e X.env) :: starEach [.Name CN p2] X.env := by rfl) (h2 : starEach [.Name CN p2] X.env = (false, eval (.Name CN p2) X.env) :: starEach [] X.env := by rfl) (hpl : (backTo pos (starEach [.Name CN p2] X.env)).any (·.1) = false := by rfl) :
    PD K Z X (.Call (.Name "isinstance" p) [e, .Name CN p2] [] pos) (tCB (rIsU K) (tCons te (tCons (tC (.ref (He.ga K CN))) tNil))) (dIsC EX CL CN de) := by
  subst hk
  refine ⟨pe_callB call_isU hg hm (by decide +kernel) (pa_cons he.p (pa_cons (pe_glob (v := .ref (He.ga X.K CN)) hgC hmC rfl hdb) pa_nil h2) h1) (by decide) (by decide) h1 hpl, fun B hB S μ H σ δ Q QD rl k q => ?_⟩
  refine he.s B hB S μ H σ δ _ _ rl (fun S1 μ1 H1 δ1 x dx e1 r1 hx q1 => ?_) q
  obtain ⟨b, hb, q1⟩ := q1
  exact sim_isC A (mem_of_contains hC) r1.r3 hx hb (k S1 μ1 H1 δ1 _ (.bl b) e1 r1 rfl q1)
end Dl

namespace Dl
open PySem PySem.Spec PyProof.Rows L2
variable {K : PySem.W.Frag}
/-! ### the classes -/
theorem insB_ok {D : Addr} (h : insB K D = true) : Ins K D := by
  obtain ⟨a, b⟩ := He.ba h
  obtain ⟨b, c⟩ := He.ba b
  obtain ⟨c, d⟩ := He.ba c
  exact ⟨He.eqO_ok a, He.eqO_ok b, of_decide_eq_true c, of_decide_eq_true d⟩
theorem excB_ok {D : Addr} (h : excB K D = true) : ExcC K D := by
  obtain ⟨a, b⟩ := He.ba h
  obtain ⟨b, c⟩ := He.ba b
  obtain ⟨c, d⟩ := He.ba c
  obtain ⟨d, e⟩ := He.ba d
  have i := insB_ok a
  exact ⟨He.eqO_ok b, He.eqO_ok c, of_decide_eq_true d, e, i.ha, i.hn, i.ht, i.hm⟩
/-- EX: own exceptions; CT, CL: other classes asked for, other classes of which there are objects -/
theorem exsB_ok {EX : List Str} (h : exsB EX K = true) : Exs K EX := ⟨fun c hc C hC => of_decide_eq_true (List.all_eq_true.mp (List.all_eq_true.mp h c hc) C hC)⟩
theorem cssB_ok {EX CL : List Str} (h : cssB EX CL K = true) : Css K EX CL := by
  obtain ⟨a, b⟩ := He.ba h
  obtain ⟨b, c⟩ := He.ba b
  obtain ⟨c, d⟩ := He.ba c
  refine ⟨fun x hx => excB_ok (List.all_eq_true.mp a x hx), fun x hx => ?_, fun x hx y hy => of_decide_eq_true (List.all_eq_true.mp (List.all_eq_true.mp c x hx) y hy), fun x hx t ht => of_decide_eq_true (List.all_eq_true.mp (List.all_eq_true.mp d x hx) t ht)⟩
  obtain ⟨p, q⟩ := He.ba (List.all_eq_true.mp b x hx)
  exact ⟨He.cls_ok p, insB_ok q⟩
theorem ec_of {mg : Str → Option Value} {C : Str} (c : (He.Fa.exc C).ok K = true) (g : mg C = some (.ref (He.ga K C))) : Ec K mg C := by
  obtain ⟨h1, h2, h3, h4⟩ := He.exc_ok c
  exact ⟨h1, h2, h3, h4, g⟩
end Dl

namespace Dl
open PySem PySem.Spec PyProof.Rows L2
variable {X : Cx} {K : PySem.W.Frag} {Z : Bs}
/-! ### more built-ins -/
def rdInt : DC := fun xs μ Q => (∃ i, xs = [.int i] ∧ Q (.int i) μ) ∨ ∃ b, xs = [.bl b] ∧ Q (.int (if b then 1 else 0)) μ
theorem c_int : PDC K X (.type "int") (fun xs H Q => (∃ i, xs = [.int i] ∧ Q (.int i) H) ∨ ∃ k, xs = [.bl k] ∧ Q (.int (if k then 1 else 0)) H) rdInt :=
  ⟨call_int1, fun S μ H xs ds Q QD r hx k q => by
    rcases q with ⟨i, rfl, q⟩ | ⟨b, rfl, q⟩
    · obtain ⟨v, rfl, hv⟩ := RepL.one' hx
      have hv : v = .int i := hv
      rw [hv]
      exact .inl ⟨i, rfl, k S μ H _ (.int i) Grow.refl r rfl q⟩
    · obtain ⟨v, rfl, hv⟩ := RepL.one' hx
      have hv : v = .bl b := hv
      rw [hv]
      exact .inr ⟨b, rfl, k S μ H _ (.int _) Grow.refl r rfl q⟩⟩
def rdAbs : DC := fun xs μ Q => ∃ i, xs = [.int i] ∧ Q (.int (if i < 0 then -i else i)) μ
theorem c_abs : PDC K X (.builtin "abs") (fun xs H Q => ∃ i, xs = [.int i] ∧ Q (.int (if i < 0 then -i else i)) H) rdAbs :=
  ⟨call_abs, fun S μ H xs ds Q QD r hx k q => by
    obtain ⟨i, rfl, q⟩ := q
    obtain ⟨v, rfl, hv⟩ := RepL.one' hx
    have hv : v = .int i := hv
    rw [hv]
    exact ⟨i, rfl, k S μ H _ (.int _) Grow.refl r rfl q⟩⟩
def rdStr : DC := fun xs μ Q => ∃ i, xs = [.int i] ∧ i.natAbs.log2 < 1920 ∧ Q (.str (toString i)) μ
theorem c_str : PDC K X (.type "str") (fun xs H Q => ∃ i, xs = [.int i] ∧ i.natAbs.log2 < 1920 ∧ Q (.str (toString i)) H) rdStr :=
  ⟨call_str_int, fun S μ H xs ds Q QD r hx k q => by
    obtain ⟨i, rfl, hl, q⟩ := q
    obtain ⟨v, rfl, hv⟩ := RepL.one' hx
    have hv : v = .int i := hv
    rw [hv]
    exact ⟨i, rfl, hl, k S μ H _ (.str _) Grow.refl r rfl q⟩⟩
/-! ### a, b = a list -/
def gdLst (n : Nat) (t : DGs) : DG := fun d δ μ Q => ∃ l, d = .lst l ∧ l.length = n ∧ t l δ μ Q
theorem simGLst {n : Nat} {t : TGs} {d : DGs} (h : SimGs K Z t d) : SimG K Z (gLst K n t) (gdLst n d) := fun B hB S μ H σ δ v ds Q QD rl hr k q => by
  obtain ⟨l, rfl, hl, q⟩ := q
  obtain ⟨a, vs, rfl, h1, h2⟩ := hr
  exact ⟨a, vs, rfl, SqL.of (exr_lst rl.r3.ex h1), by rw [RepL.length h2]; exact hl, h B hB S μ H σ δ vs l _ _ rl h2 k q⟩
theorem g_lstP {es : List Expr} {k : Nat} {t : TGs} {d : DGs} {n : Nat} {pos} (hc : X.calm = true) (h : PDGs K Z X es t d) (hn : (assignEach es X.env).length = n := by rfl) (hst : (assignEach es X.env).findIdx? (·.1) = none := by rfl) (hk : X.K = K := by rfl) : PDG K Z X (.Tuple es k pos) (gLst K n t) (gdLst n d) := by
  subst hk
  exact ⟨pg_lst hc h.p hn hst, simGLst h.s⟩
theorem gm_lst {n : Nat} {t : TGs} (m : ∀ v σ H Q Q', (∀ σ H, Q σ H → Q' σ H) → t v σ H Q → t v σ H Q') : ∀ v σ H Q Q', (∀ σ H, Q σ H → Q' σ H) → gLst K n t v σ H Q → gLst K n t v σ H Q' := fun v σ H Q Q' k q => by
  obtain ⟨a, xs, h1, h2, h3, q⟩ := q
  exact ⟨a, xs, h1, h2, h3, m _ _ _ _ _ k q⟩
theorem go_lst {n : Nat} {t : TGs} {vs : List Nat} (h : GOwns t vs) : GOwn (gLst K n t) vs := fun v σ H Q q => by
  obtain ⟨a, xs, h1, h2, h3, q⟩ := q
  exact ⟨a, xs, h1, h2, h3, h _ _ _ _ q⟩
/-! ### a, b = x, y -/
def dPar (i j : Nat) (da : DA) : DS := fun DD δ μ => da δ μ fun ds δ1 μ1 => ∃ x y, ds = [x, y] ∧ DD.nx ((δ1.set i (.val x)).set j (.val y)) μ1
theorem s_par {i j : Nat} {x y : Str} {a b : Expr} {ta : TA} {da : DA} {px py pt pos : Pos} {kt k2 pt2} (hN : X.N.Nodup) (ha : PDA K Z X [a, b] ta da) (hij : i ≠ j := by decide) (hi : X.N[i]? = some x := by rfl) (hj : X.N[j]? = some y := by rfl) (hx : X.env.scope.names.lookup x = some .local := by rfl) (hy : X.env.scope.names.lookup y = some .local := by rfl)
    (hw : swappedStores [.Tuple [.Name x px, .Name y py] kt pt] (.Tuple [a, b] k2 pt2) X.env = pure (some [x, y]) := by rfl) (hs : swapsWithSole [.Tuple [.Name x px, .Name y py] kt pt] (.Tuple [a, b] k2 pt2) pos.line X.env = pure false := by rfl) (hc : X.calm = true := by rfl) :
    PDS K Z X (.Assign [.Tuple [.Name x px, .Name y py] kt pt] (.Tuple [a, b] k2 pt2) pos) (tPar i j ta) (dPar i j da) :=
  ⟨ps_par hc hN hi hj hij hx hy ha.p hw hs, fun B hB S μ H σ δ E DD rl lf q => by
    refine ha.s B hB S μ H σ δ _ _ rl (fun S1 μ1 H1 δ1 xs ds e1 r1 hx q1 => ?_) q
    obtain ⟨d1, d2, rfl, q1⟩ := q1
    obtain ⟨v, w, rfl, h1, h2⟩ := RepL.two' hx
    exact ⟨v, w, rfl, lf.nx S1 μ1 H1 _ _ ((r1.set h1).set h2) q1⟩⟩
/-- .. the first one a list that is then changed -/
def dParF (i j : Nat) (df : DF) (db : DE) : DS := fun DD δ μ => df δ μ fun m δ1 μ1 => db δ1 μ1 fun y δ2 μ2 => DD.nx ((δ2.set i (.own m)).set j (.val y)) μ2
theorem s_parF {i j : Nat} {x y : Str} {a b : Expr} {ta tb : TE} {df : DF} {db : DE} {px py pt pos : Pos} {kt k2 pt2} (hN : X.N.Nodup) (ha : PDF K Z X a ta df) (hb : PD K Z X b tb db) (hij : i ≠ j := by decide) (hi : X.N[i]? = some x := by rfl) (hj : X.N[j]? = some y := by rfl) (hx : X.env.scope.names.lookup x = some .local := by rfl) (hy : X.env.scope.names.lookup y = some .local := by rfl)
    (hw : swappedStores [.Tuple [.Name x px, .Name y py] kt pt] (.Tuple [a, b] k2 pt2) X.env = pure (some [x, y]) := by rfl) (hs : swapsWithSole [.Tuple [.Name x px, .Name y py] kt pt] (.Tuple [a, b] k2 pt2) pos.line X.env = pure false := by rfl) (hc : X.calm = true := by rfl)
    (h1 : starEach [a, b] X.env = (false, eval a X.env) :: starEach [b] X.env := by rfl) (h2 : starEach [b] X.env = (false, eval b X.env) :: starEach [] X.env := by rfl) :
    PDS K Z X (.Assign [.Tuple [.Name x px, .Name y py] kt pt] (.Tuple [a, b] k2 pt2) pos) (tPar i j (tCons ta (tCons tb tNil))) (dParF i j df db) :=
  ⟨ps_par hc hN hi hj hij hx hy (pa_cons ha.p (pa_cons hb.p pa_nil h2) h1) hw hs, fun B hB S μ H σ δ E DD rl lf q => by
    refine ha.s B hB S μ H σ δ _ _ rl (fun S1 μ1 H1 δ1 p o m e1 r1 f hm q1 => ?_) q
    refine hb.s { B with F := updF B.F p m } (hB.aside f.f) S1 μ1 H1 σ δ1 _ _ (r1.aside f hm) (fun S2 μ2 H2 δ2 v d e2 r2 hv q2 => ?_) q1
    obtain ⟨r3, o', f3, hm3⟩ := Rel.again f.f r2
    exact ⟨.ref p, v, rfl, lf.nx S2 μ2 H2 _ _ ((r3.ownF f3 hm3).set hv) q2⟩⟩
def dPar3 (i j l : Nat) (da : DA) : DS := fun DD δ μ => da δ μ fun ds δ1 μ1 => ∃ x y z, ds = [x, y, z] ∧ DD.nx (((δ1.set i (.val x)).set j (.val y)).set l (.val z)) μ1
theorem s_par3 {i j l : Nat} {x y z : Str} {a b c : Expr} {ta : TA} {da : DA} {px py pz pt pos : Pos} {kt k2 pt2} (hN : X.N.Nodup) (ha : PDA K Z X [a, b, c] ta da) (hij : i ≠ j := by decide) (hil : i ≠ l := by decide) (hjl : j ≠ l := by decide) (hi : X.N[i]? = some x := by rfl) (hj : X.N[j]? = some y := by rfl) (hl : X.N[l]? = some z := by rfl) (hx : X.env.scope.names.lookup x = some .local := by rfl) (hy : X.env.scope.names.lookup y = some .local := by rfl) (hz : X.env.scope.names.lookup z = some .local := by rfl)
    (hw : swappedStores [.Tuple [.Name x px, .Name y py, .Name z pz] kt pt] (.Tuple [a, b, c] k2 pt2) X.env = pure (some [x, y, z]) := by rfl) (hs : swapsWithSole [.Tuple [.Name x px, .Name y py, .Name z pz] kt pt] (.Tuple [a, b, c] k2 pt2) pos.line X.env = pure false := by rfl) (hc : X.calm = true := by rfl) :
    PDS K Z X (.Assign [.Tuple [.Name x px, .Name y py, .Name z pz] kt pt] (.Tuple [a, b, c] k2 pt2) pos) (tPar3 i j l ta) (dPar3 i j l da) :=
  ⟨ps_par3 hc hN hi hj hl hij hil hjl hx hy hz ha.p hw hs, fun B hB S μ H σ δ E DD rl lf q => by
    refine ha.s B hB S μ H σ δ _ _ rl (fun S1 μ1 H1 δ1 xs ds e1 r1 hx q1 => ?_) q
    obtain ⟨d1, d2, d3, rfl, q1⟩ := q1
    obtain ⟨v, r, rfl, h1, h2⟩ := hx
    obtain ⟨w, u, rfl, h2, h3⟩ := RepL.two' h2
    exact ⟨v, w, u, rfl, lf.nx S1 μ1 H1 _ _ (((r1.set h1).set h2).set h3) q1⟩⟩
end Dl

namespace Dl
open PySem PySem.Spec PyProof.Rows L2
variable {X : Cx} {K : PySem.W.Frag} {Z : Bs}
/-! ### lists of whole numbers -/
def lstOf (μ : Mem) : D → Option (List D)
  | .lst l => some l
  | .scr l => some l
  | .ref p => match μ p with
    | some (.lst l) => some l
    | _ => none
  | _ => none
theorem lst_is {S : Hp} {μ : Mem} {H : Hp} (r : R3 K S μ H) {d : D} {v : V} {l : List D} (h : Rep K S d v) (e : lstOf μ d = some l) : ∃ a vs, v = .ref a ∧ SqL K H a vs ∧ RepL K S l vs := by
  cases d with
  | lst l' =>
    cases (show some _ = some _ from e)
    obtain ⟨a, vs, rfl, h1, h2⟩ := h
    exact ⟨a, vs, rfl, SqL.of (exr_lst r.ex h1), h2⟩
  | scr l' =>
    cases (show some _ = some _ from e)
    obtain ⟨a, vs, rfl, h1, h2⟩ := h
    exact ⟨a, vs, rfl, exr_l r.ex h1, h2⟩
  | ref p =>
    unfold lstOf at e
    dsimp only at e
    split at e
    · cases e
      rename_i hm
      have h : v = .ref p := h
      obtain ⟨_, o, h1, vs, rfl, h2⟩ := r.mu p _ hm
      exact ⟨p, vs, h, SqL.of h1, h2⟩
    · cases e
  | _ => cases (show none = some _ from e)
/-! ### a list of the memory is walked -/
def diCell (de : DE) : DI := fun δ μ Q => de δ μ fun d δ1 μ1 => ∃ p l, d = .ref p ∧ μ1 p = some (.lst l) ∧ Q l (fun μ => μ p = some (.lst l)) δ1 μ1
theorem wk_cell {S : Hp} {p : Addr} {l : List D} : Wk K S (Itl K p) l (fun μ => μ p = some (.lst l)) where
  goes := fun S' μ H i e r g hi => by
    obtain ⟨_, o, h1, vs, rfl, h2⟩ := r.mu p _ g
    have hi' : i < vs.length := by rw [RepL.length h2]; exact hi
    exact ⟨vs, vs[i], SqL.of h1, by simp [hi']⟩
  stops := fun S' μ H e r g => by
    obtain ⟨_, o, h1, vs, rfl, h2⟩ := r.mu p _ g
    exact ⟨vs, SqL.of h1, by rw [RepL.length h2]; exact Nat.le_refl _⟩
  yields := fun S' μ H i d x H' e r g hd y => by
    obtain ⟨_, o, h1, vs, rfl, h2⟩ := r.mu p _ g
    obtain ⟨rfl, y⟩ := y
    have y := y vs (SqL.of h1)
    obtain ⟨v, e1, hv⟩ := RepL.get h2 hd
    rw [e1] at y
    cases y
    exact ⟨S', Grow.refl, r, hv⟩
theorem i_cell {tg e : Expr} {te : TE} {de : DE} (h : PD K Z X e te de) (hk : X.K = K := by rfl) : PDI K Z X tg e (iList K te) (diCell de) := by
  subst hk
  exact ⟨pi_list h.p, fun B hB S μ H σ δ Q QD rl k q => by
    refine h.s B hB S μ H σ δ _ _ rl (fun S1 μ1 H1 δ1 v d e1 r1 hv q1 => ?_) q
    obtain ⟨p, l, rfl, hm, q1⟩ := q1
    have hv : v = .ref p := hv
    subst hv
    obtain ⟨_, o, h1, vs, rfl, h2⟩ := r1.r3.mu p _ hm
    exact ⟨p, rfl, ⟨vs, SqL.of h1⟩, k S1 μ1 H1 δ1 _ l _ e1 r1 wk_cell q1⟩⟩
/-- a list, of the memory or not -/
def WkL (d : D) (μ : Mem) (R : List D → (Mem → Prop) → Prop) : Prop := (∃ l, (d = .lst l ∨ d = .scr l) ∧ R l (fun _ => True)) ∨ (∃ p l, d = .ref p ∧ μ p = some (.lst l) ∧ R l (fun μ => μ p = some (.lst l)))
def diAny (de : DE) : DI := fun δ μ Q => de δ μ fun d δ1 μ1 => WkL d μ1 fun l G => Q l G δ1 μ1
theorem i_any {tg e : Expr} {te : TE} {de : DE} (h : PD K Z X e te de) (hk : X.K = K := by rfl) : PDI K Z X tg e (iList K te) (diAny de) := by
  subst hk
  exact ⟨pi_list h.p, fun B hB S μ H σ δ Q QD rl k q => by
    refine h.s B hB S μ H σ δ _ _ rl (fun S1 μ1 H1 δ1 v d e1 r1 hv q1 => ?_) q
    rcases q1 with ⟨l, hd, q1⟩ | ⟨p, l, rfl, hm, q1⟩
    · obtain ⟨a, vs, rfl, hl, h2⟩ : ∃ a vs, v = .ref a ∧ SqL X.K S1 a vs ∧ RepL X.K S1 l vs := by
        rcases hd with rfl | rfl
        · obtain ⟨a, vs, e, h1, h2⟩ := hv
          exact ⟨a, vs, e, SqL.of h1, h2⟩
        · exact hv
      exact ⟨a, rfl, ⟨vs, exr_l r1.r3.ex hl⟩, k S1 μ1 H1 δ1 _ l _ e1 r1 (wk_list hl h2) q1⟩
    · have hv : v = .ref p := hv
      subst hv
      obtain ⟨_, o, h1, vs, rfl, h2⟩ := r1.r3.mu p _ hm
      exact ⟨p, rfl, ⟨vs, SqL.of h1⟩, k S1 μ1 H1 δ1 _ l _ e1 r1 wk_cell q1⟩⟩
def rMaxL (K : PySem.W.Frag) : List V → Hp → VK → Prop := fun xs H Q => ∃ (a : Addr) (ns : List Int), xs = [.ref a] ∧ SqL K H a (ns.map V.int) ∧ 0 < ns.length ∧ ∀ M, M ∈ ns → (∀ b ∈ ns, b ≤ M) → Q (.int M) H
def rMinL (K : PySem.W.Frag) : List V → Hp → VK → Prop := fun xs H Q => ∃ (a : Addr) (ns : List Int), xs = [.ref a] ∧ SqL K H a (ns.map V.int) ∧ 0 < ns.length ∧ ∀ M, M ∈ ns → (∀ b ∈ ns, M ≤ b) → Q (.int M) H
theorem call_maxL (hc : X.calm = true) : CallR X (.builtin "max") (rMaxL X.K) := fun pins s σ H vs us Q I r h => by
  obtain ⟨a, ns, rfl, hs, hne, q⟩ := h
  obtain ⟨its, rv, hl, hz⟩ := I.list hs
  rw [Vals.ref1 r]
  have hi := rv.ints
  obtain ⟨xs, e⟩ := hi.allInts.items
  have hns : ns = xs.toList.map (·.1) := by rw [← hi.numsOf, ← nums_intItems, ← e]
  have hsz : 0 < xs.size := by
    rw [hns, List.length_map, Array.length_toList] at hne
    exact hne
  have hl' := hl.isList
  rw [e] at hl'
  refine max_intList (I.ok.hd hc) hl' hsz fun v h' tk hv hk => ?_
  obtain ⟨t, rfl⟩ := intItems_at hv
  obtain ⟨h1, h2⟩ := argBest_gt (numAt xs) (xs.size - 1)
  refine ⟨.int _, H, I.kept (t' := tk) hk, ⟨t, rfl⟩, q _ ?_ fun b hb => ?_⟩
  · rw [hns, numAt_eq]
    exact getD_mem (by rw [List.length_map, Array.length_toList]; omega)
  · rw [hns] at hb
    obtain ⟨j, hj, rfl⟩ := mem_getD hb
    rw [List.length_map, Array.length_toList] at hj
    rw [← numAt_eq]
    exact h2 j (by omega)
theorem call_minL (hc : X.calm = true) : CallR X (.builtin "min") (rMinL X.K) := fun pins s σ H vs us Q I r h => by
  obtain ⟨a, ns, rfl, hs, hne, q⟩ := h
  obtain ⟨its, rv, hl, hz⟩ := I.list hs
  rw [Vals.ref1 r]
  have hi := rv.ints
  obtain ⟨xs, e⟩ := hi.allInts.items
  have hns : ns = xs.toList.map (·.1) := by rw [← hi.numsOf, ← nums_intItems, ← e]
  have hsz : 0 < xs.size := by
    rw [hns, List.length_map, Array.length_toList] at hne
    exact hne
  have hl' := hl.isList
  rw [e] at hl'
  refine min_intList (I.ok.hd hc) hl' hsz fun v h' tk hv hk => ?_
  obtain ⟨t, rfl⟩ := intItems_at hv
  obtain ⟨h1, h2⟩ := argBest_lt (numAt xs) (xs.size - 1)
  refine ⟨.int _, H, I.kept (t' := tk) hk, ⟨t, rfl⟩, q _ ?_ fun b hb => ?_⟩
  · rw [hns, numAt_eq]
    exact getD_mem (by rw [List.length_map, Array.length_toList]; omega)
  · rw [hns] at hb
    obtain ⟨j, hj, rfl⟩ := mem_getD hb
    rw [List.length_map, Array.length_toList] at hj
    rw [← numAt_eq]
    exact h2 j (by omega)
def rdMaxL : DC := fun xs μ Q => ∃ (d : D) (ns : List Int), xs = [d] ∧ lstOf μ d = some (ns.map .int) ∧ 0 < ns.length ∧ ∀ M, M ∈ ns → (∀ b ∈ ns, b ≤ M) → Q (.int M) μ
def rdMinL : DC := fun xs μ Q => ∃ (d : D) (ns : List Int), xs = [d] ∧ lstOf μ d = some (ns.map .int) ∧ 0 < ns.length ∧ ∀ M, M ∈ ns → (∀ b ∈ ns, M ≤ b) → Q (.int M) μ
theorem c_maxL (hc : X.calm = true) (hk : X.K = K := by rfl) : PDC K X (.builtin "max") (rMaxL K) rdMaxL := by
  subst hk
  exact ⟨call_maxL hc, fun S μ H xs ds Q QD r hx k q => by
    obtain ⟨d, ns, rfl, hl, hn, q⟩ := q
    obtain ⟨v, rfl, hv⟩ := RepL.one' hx
    obtain ⟨a, vs, rfl, h1, h2⟩ := lst_is r hv hl
    rw [RepL.int h2] at h1
    exact ⟨a, ns, rfl, h1, hn, fun M m1 m2 => k S μ H _ (.int M) Grow.refl r rfl (q M m1 m2)⟩⟩
theorem c_minL (hc : X.calm = true) (hk : X.K = K := by rfl) : PDC K X (.builtin "min") (rMinL K) rdMinL := by
  subst hk
  exact ⟨call_minL hc, fun S μ H xs ds Q QD r hx k q => by
    obtain ⟨d, ns, rfl, hl, hn, q⟩ := q
    obtain ⟨v, rfl, hv⟩ := RepL.one' hx
    obtain ⟨a, vs, rfl, h1, h2⟩ := lst_is r hv hl
    rw [RepL.int h2] at h1
    exact ⟨a, ns, rfl, h1, hn, fun M m1 m2 => k S μ H _ (.int M) Grow.refl r rfl (q M m1 m2)⟩⟩
/-- sorted(a list of whole numbers) -/
def rdSortI : DC := fun xs μ Q => ∃ (d : D) (ns : List Int), xs = [d] ∧ lstOf μ d = some (ns.map .int) ∧ ∀ ns' : List Int, ns'.Perm ns → ns'.Pairwise (· ≤ ·) → Q (.lst (ns'.map .int)) μ
theorem c_sortI (hk : X.K = K := by rfl) : PDC K X (.builtin "sorted") (rSortedI K) rdSortI := by
  subst hk
  exact ⟨cr_sortedI, fun S μ H xs ds Q QD r hx k q => by
    obtain ⟨d, ns, rfl, hl, q⟩ := q
    obtain ⟨v, rfl, hv⟩ := RepL.one' hx
    obtain ⟨a, vs, rfl, h1, h2⟩ := lst_is r hv hl
    rw [RepL.int h2] at h1
    refine ⟨a, ns, rfl, h1, fun ns' p h3 h4 hp => ?_⟩
    obtain ⟨r2, g⟩ := r.alloc (o := .lst (ns'.map V.int)) hp
    exact k _ μ _ _ (.lst (ns'.map .int)) g r2 ⟨p, _, rfl, upd_same, RepL.ints⟩ (q ns' h3 h4)⟩
end Dl

namespace Dl
open PySem PySem.Spec PyProof.Rows L2
variable {X : Cx} {K : PySem.W.Frag} {Z : Bs}
/-! ### dicts of the memory, keys whole numbers or texts -/
def keyD : D → Option Key
  | .int i => some (.inl i)
  | .str z => some (.inr z)
  | _ => none
theorem key_v {S : Hp} {d : D} {v : V} {k : Key} (h : Rep K S d v) (e : keyD d = some k) : v = kV k := by
  cases d with
  | int i => cases (show some _ = some _ from e); exact h
  | str i => cases (show some _ = some _ from e); exact h
  | _ => cases e
def dicOf (μ : Mem) : D → Option (List (Key × D))
  | .dct l => some l
  | .ref p => match μ p with
    | some (.dct l) => some l
    | some (.lck _ _ l) => some l
    | _ => none
  | _ => none
theorem dic_is {S : Hp} {μ : Mem} {H : Hp} (r : R3 K S μ H) {d : D} {v : V} {l : List (Key × D)} (h : Rep K S d v) (e : dicOf μ d = some l) : ∃ a vs, v = .ref a ∧ Rd H a (.dK vs) ∧ RepK K S l vs := by
  cases d with
  | dct l' =>
    cases (show some _ = some _ from e)
    obtain ⟨a, vs, rfl, h1, h2⟩ := h
    exact ⟨a, vs, rfl, exr_rd r.ex h1, h2⟩
  | ref p =>
    unfold dicOf at e
    dsimp only at e
    split at e
    · cases e
      rename_i hm
      have h : v = .ref p := h
      obtain ⟨_, o, h1, vs, rfl, h2⟩ := r.mu p _ hm
      exact ⟨p, vs, h, .inl h1, h2⟩
    · cases e
      rename_i od kvs hm
      have h : v = .ref p := h
      obtain ⟨_, o, h1, rfl, h2⟩ := r.mu p _ hm
      exact ⟨p, kvs, h, .inr ⟨od, h1⟩, h2⟩
    · cases e
  | _ => cases (show none = some _ from e)
def valD (l : List (Key × D)) (k : Key) : Option D := (l.find? fun kv => decide (kv.1 = k)).map (·.2)
def putKD (l : List (Key × D)) (k : Key) (d : D) : List (Key × D) := if (l.any fun kv => decide (kv.1 = k)) = true then l.map (fun kv => if kv.1 = k then (kv.1, d) else kv) else l ++ [(k, d)]
theorem RepK.val {S : Hp} {k : Key} : ∀ {l : List (Key × D)} {vs : List (Key × V)}, RepK K S l vs → (∀ d, valD l k = some d → ∃ v, valV vs k = some v ∧ Rep K S d v) ∧ (valD l k = none → valV vs k = none)
  | [], vs, h => by
    have h : vs = [] := h
    subst h
    exact ⟨(fun d e => nomatch e), fun _ => rfl⟩
  | (j, d) :: l, vs, h => by
    obtain ⟨v, r, rfl, h1, h2⟩ := h
    have ih := RepK.val (k := k) h2
    by_cases e : j = k
    · rw [valV_pos (p := (j, v)) e]
      have e2 : valD ((j, d) :: l) k = some d := by simp [valD, List.find?_cons, e]
      rw [e2]
      refine ⟨fun d' z => ?_, fun z => nomatch z⟩
      cases z
      exact ⟨v, rfl, h1⟩
    · rw [valV_neg (p := (j, v)) e]
      have e2 : valD ((j, d) :: l) k = valD l k := by simp [valD, List.find?_cons, e]
      rw [e2]
      exact ih
theorem RepK.any {S : Hp} {k : Key} : ∀ {l : List (Key × D)} {vs : List (Key × V)}, RepK K S l vs → (l.any fun kv => decide (kv.1 = k)) = (vs.any fun kv => decide (kv.1 = k))
  | [], vs, h => by have h : vs = [] := h; subst h; rfl
  | (j, d) :: l, vs, h => by
    obtain ⟨v, r, rfl, h1, h2⟩ := h
    rw [List.any_cons, List.any_cons, RepK.any h2]
theorem RepK.len {S : Hp} : ∀ {l : List (Key × D)} {vs : List (Key × V)}, RepK K S l vs → vs.length = l.length
  | [], vs, h => by have h : vs = [] := h; subst h; rfl
  | (j, d) :: l, vs, h => by
    obtain ⟨v, r, rfl, h1, h2⟩ := h
    rw [List.length_cons, List.length_cons, RepK.len h2]
theorem RepK.keys {S : Hp} : ∀ {l : List (Key × D)} {vs : List (Key × V)}, RepK K S l vs → vs.map (·.1) = l.map (·.1)
  | [], vs, h => by have h : vs = [] := h; subst h; rfl
  | (j, d) :: l, vs, h => by
    obtain ⟨v, r, rfl, h1, h2⟩ := h
    rw [List.map_cons, List.map_cons, RepK.keys h2]
theorem RepK.map {S : Hp} {k : Key} {d : D} {v : V} (hd : Rep K S d v) : ∀ {l : List (Key × D)} {vs : List (Key × V)}, RepK K S l vs → RepK K S (l.map fun kv => if kv.1 = k then (kv.1, d) else kv) (vs.map fun kv => if kv.1 = k then (kv.1, v) else kv)
  | [], vs, h => by have h : vs = [] := h; subst h; rfl
  | (j, e) :: l, vs, h => by
    obtain ⟨u, r, rfl, h1, h2⟩ := h
    rw [List.map_cons, List.map_cons]
    by_cases hj : j = k
    · rw [if_pos hj, if_pos hj]; exact ⟨v, _, rfl, hd, RepK.map hd h2⟩
    · rw [if_neg hj, if_neg hj]; exact ⟨u, _, rfl, h1, RepK.map hd h2⟩
theorem RepK.snoc {S : Hp} {k : Key} {d : D} {v : V} (hd : Rep K S d v) : ∀ {l : List (Key × D)} {vs : List (Key × V)}, RepK K S l vs → RepK K S (l ++ [(k, d)]) (vs ++ [(k, v)])
  | [], vs, h => by have h : vs = [] := h; subst h; exact ⟨v, [], rfl, hd, rfl⟩
  | (j, e) :: l, vs, h => by
    obtain ⟨u, r, rfl, h1, h2⟩ := h
    exact ⟨u, _, rfl, h1, RepK.snoc hd h2⟩
theorem RepK.put {S : Hp} {k : Key} {d : D} {v : V} {l : List (Key × D)} {vs : List (Key × V)} (hd : Rep K S d v) (h : RepK K S l vs) : RepK K S (putKD l k d) (putK vs k v) := by
  unfold putKD putK
  rw [RepK.any h]
  split
  · exact RepK.map hd h
  · exact RepK.snoc hd h
/-- {} -/
def dDicM : DE := fun δ μ Q => ∀ p, μ p = none → Q (.ref p) δ (updM μ p (.dct []))
theorem d_dicM {pos : Pos} : PD K Z X (.Dict [] [] pos) tDNewK dDicM := ⟨pe_dnewK, fun B hB S μ H σ δ Q QD rl k q => fun p hp => by
  obtain ⟨r2, g⟩ := rl.r3.cell (o := .dK []) (m := .dct []) hp ⟨[], rfl, rfl⟩
  exact k S _ _ δ _ (.ref p) (Ex.refl S) (rl.grow g r2) rfl (q p (rl.r3.free hp).2)⟩
/-- d[k] -/
def dGetK (da db : DE) : DE := fun δ μ Q => da δ μ fun x δ1 μ1 => db δ1 μ1 fun y δ2 μ2 => ∃ l k d, dicOf μ2 x = some l ∧ keyD y = some k ∧ valD l k = some d ∧ Q d δ2 μ2
theorem d_getK {o i : Expr} {pos : Pos} {ta tb : TE} {da db : DE} (hu : X.A.units + 1 < cLine) (ho : PD K Z X o ta da) (hi : PD K Z X i tb db) (hs : NoSl i := by intro _ _; rfl) : PD K Z X (.Subscript o i pos) (tDGet ta tb) (dGetK da db) := ⟨pe_dget hu ho.p hi.p hs, fun B hB S μ H σ δ Q QD rl k q => by
  refine ho.s B hB S μ H σ δ _ _ rl (fun S1 μ1 H1 δ1 x dx e1 r1 hx q1 => ?_) q
  refine hi.s B hB S1 μ1 H1 σ δ1 _ _ r1 (fun S2 μ2 H2 δ2 y dy e2 r2 hy q2 => ?_) q1
  obtain ⟨l, kk, d, h1, h2, h3, q2⟩ := q2
  obtain ⟨a, vs, rfl, h4, h5⟩ := dic_is r2.r3 (Rep.mono e2 _ _ hx) h1
  obtain ⟨v, h6, h7⟩ := (RepK.val h5).1 d h3
  exact ⟨a, v, rfl, .inl ⟨vs, kk, h4, key_v hy h2, h6.symm⟩, k S2 μ2 H2 δ2 v d (e1.trans e2) r2 h7 q2⟩⟩
/-- d[k] = v -/
def dPutK (da db de : DE) : DS := fun DD δ μ => de δ μ fun d δ1 μ1 => da δ1 μ1 fun x δ2 μ2 => db δ2 μ2 fun y δ3 μ3 => ∃ p l k, x = .ref p ∧ μ3 p = some (.dct l) ∧ keyD y = some k ∧ l.length < sizeLine ∧ DD.nx δ3 (updM μ3 p (.dct (putKD l k d)))
theorem s_putK {o i e : Expr} {pos p2 : Pos} {ta tb te : TE} {da db de : DE} (hu : X.A.units + 1 < cLine) (ho : PD K Z X o ta da) (hi : PD K Z X i tb db) (he : PD K Z X e te de) (hs : swapsWith e (some (.Subscript o i p2)) pos.line X.env = pure false := by rfl) : PDS K Z X (.Assign [.Subscript o i p2] e pos) (sDPut ta tb te) (dPutK da db de) := ⟨ps_dput hu ho.p hi.p he.p hs, fun B hB S μ H σ δ E DD rl lf q => by
  refine he.s B hB S μ H σ δ _ _ rl (fun S1 μ1 H1 δ1 v d e1 r1 hv q1 => ?_) q
  refine ho.s B hB S1 μ1 H1 σ δ1 _ _ r1 (fun S2 μ2 H2 δ2 x dx e2 r2 hx q2 => ?_) q1
  refine hi.s B hB S2 μ2 H2 σ δ2 _ _ r2 (fun S3 μ3 H3 δ3 y dy e3 r3 hy q3 => ?_) q2
  obtain ⟨p, l, k, rfl, hm, h2, hl, q3⟩ := q3
  have hx : x = .ref p := hx
  subst hx
  obtain ⟨_, o', h3, vs, rfl, h4⟩ := r3.r3.mu p _ hm
  obtain ⟨r4, g⟩ := r3.r3.write hm (o := .dK (putK vs k v)) (m := .dct (putKD l k d)) ⟨_, rfl, RepK.put (Rep.mono e3 _ _ (Rep.mono e2 _ _ hv)) h4⟩
  exact ⟨p, _, rfl, .inl ⟨vs, k, h3, key_v hy h2, by rw [RepK.len h4]; exact hl, rfl⟩, lf.nx _ _ _ σ δ3 (r3.grow g r4) q3⟩⟩
/-- sorted(d), keys whole numbers -/
def rdSortDI : DC := fun xs μ Q => ∃ (d : D) (l : List (Key × D)) (ks : List Int), xs = [d] ∧ dicOf μ d = some l ∧ l.map (·.1) = ks.map Sum.inl ∧ ks.length < 64 ∧ ∀ ns : List Int, ns.Perm ks → ns.Pairwise (· ≤ ·) → Q (.lst (ns.map .int)) μ
theorem c_sortDI (hc : X.calm = true) : PDC K X (.builtin "sorted") (fun xs H Q => ∃ (a : Addr) (kvs : List (Key × V)) (ks : List Int), xs = [.ref a] ∧ Rd H a (.dK kvs) ∧ kvs.map (·.1) = ks.map Sum.inl ∧ ks.length < 64 ∧ ∀ (ys : List Int) (p : Addr), ys.Perm ks → ys.Pairwise (· ≤ ·) → H p = none → Q (.ref p) (upd H p (.lst (ys.map V.int)))) rdSortDI :=
  ⟨call_sortedDI hc, fun S μ H xs ds Q QD r hx k q => by
    obtain ⟨d, l, ks, rfl, h1, h2, h3, q⟩ := q
    obtain ⟨v, rfl, hv⟩ := RepL.one' hx
    obtain ⟨a, vs, rfl, h4, h5⟩ := dic_is r hv h1
    refine ⟨a, vs, ks, rfl, h4, by rw [RepK.keys h5]; exact h2, h3, fun ys p y1 y2 hp => ?_⟩
    obtain ⟨r2, g⟩ := r.alloc (o := .lst (ys.map V.int)) hp
    exact k _ μ _ _ (.lst (ys.map .int)) g r2 ⟨p, _, rfl, upd_same, RepL.ints⟩ (q ys y1 y2)⟩
end Dl

namespace Dl
open PySem PySem.Spec PyProof.Rows L2
variable {X : Cx} {K : PySem.W.Frag} {Z : Bs}
/-! ### the draw: a list of the script and a number that is nobody's business -/
def dDrw1 (da : DE) : DE := fun δ μ Q => da δ μ fun x δ1 μ1 => ∃ ns, x = .drw ns ∧ ∀ n : Int, 0 ≤ n → Q (.int n) δ1 μ1
def dDrw0 (da : DE) : DE := fun δ μ Q => da δ μ fun x δ1 μ1 => ∃ ns, x = .drw ns ∧ (ns.length ≤ 63 → Q (.scr (ns.map .int)) δ1 μ1)
theorem d_drw1 {a : Expr} {j} {c pos : Pos} {ta : TE} {da : DE} (ha : PD K Z X a ta da) (hs : PlainIx (.Constant (.int 1) j c) := by exact fun _ _ => rfl) (hk : X.K = K := by rfl) : PD K Z X (.Subscript a (.Constant (.int 1) j c) pos) (tOp (rIx K) ta (tC (.int 1))) (dDrw1 da) := by
  subst hk
  exact ⟨pe_ix ix_seq ha.p pe_int hs, fun B hB S μ H σ δ Q QD rl k q => by
    refine ha.s B hB S μ H σ δ _ _ rl (fun S1 μ1 H1 δ1 x dx e1 r1 hx q1 => ?_) q
    obtain ⟨ns, rfl, q1⟩ := q1
    obtain ⟨p, sa, rfl, h1, h2, h3⟩ := hx
    obtain ⟨n, h4, h5⟩ := r1.r3.ex.drw h1
    exact .inl ⟨p, _, 1, .int n, rfl, rfl, SqL.of h4, rfl, k S1 μ1 H1 δ1 _ (.int n) e1 r1 rfl (q1 n h5)⟩⟩
theorem d_drw0 {a : Expr} {j} {c pos : Pos} {ta : TE} {da : DE} (ha : PD K Z X a ta da) (hs : PlainIx (.Constant (.int 0) j c) := by exact fun _ _ => rfl) (hk : X.K = K := by rfl) : PD K Z X (.Subscript a (.Constant (.int 0) j c) pos) (tOp (rIx K) ta (tC (.int 0))) (dDrw0 da) := by
  subst hk
  exact ⟨pe_ix ix_seq ha.p pe_int hs, fun B hB S μ H σ δ Q QD rl k q => by
    refine ha.s B hB S μ H σ δ _ _ rl (fun S1 μ1 H1 δ1 x dx e1 r1 hx q1 => ?_) q
    obtain ⟨ns, rfl, q1⟩ := q1
    obtain ⟨p, sa, rfl, h1, h2, h3⟩ := hx
    obtain ⟨n, h4, h5⟩ := r1.r3.ex.drw h1
    exact .inl ⟨p, _, 0, .ref sa, rfl, rfl, SqL.of h4, rfl, k S1 μ1 H1 δ1 _ (.scr (ns.map .int)) e1 r1 ⟨sa, _, rfl, h2, RepL.ints⟩ (q1 h3)⟩⟩
def dSetDrw (da de : DE) : DS := fun DD δ μ => de δ μ fun d δ1 μ1 => da δ1 μ1 fun x δ2 μ2 => ∃ ns m, x = .drw ns ∧ d = .int m ∧ 0 ≤ m ∧ DD.nx δ2 μ2
theorem s_setDrw {o e : Expr} {j} {c pos p2 : Pos} {ta te : TE} {da de : DE} (ho : PD K Z X o ta da) (he : PD K Z X e te de)
    (ha : ∀ v, assign (.Subscript o (.Constant (.int 1) j c) p2) X.env v = (do
      let ov ← holding [v] (eval o X.env)
      let iv ← holding [v, ov] (eval (.Constant (.int 1) j c) X.env)
      standAt p2
      holding [v, ov, iv] (setItem ov iv v)
      release [v, ov, iv] []) := by intro _; rfl) (hs : swapsWithSole [.Subscript o (.Constant (.int 1) j c) p2] e pos.line X.env = pure false := by rfl) (hw : swappedStores [.Subscript o (.Constant (.int 1) j c) p2] e X.env = pure none := by rfl)
    (h1 : (assignEach [.Subscript o (.Constant (.int 1) j c) p2] X.env).map (·.2) = [assign (.Subscript o (.Constant (.int 1) j c) p2) X.env] := by rfl) : PDS K Z X (.Assign [.Subscript o (.Constant (.int 1) j c) p2] e pos) (tAsg te (gSub ta (tC (.int 1)) rSetL)) (dSetDrw da de) :=
  ⟨ps_asg he.p (pg_sub ho.p pe_int set_list ha) hs hw h1, fun B hB S μ H σ δ E DD rl lf q => by
    refine he.s B hB S μ H σ δ _ _ rl (fun S1 μ1 H1 δ1 v d e1 r1 hv q1 => ?_) q
    refine ho.s B hB S1 μ1 H1 σ δ1 _ _ r1 (fun S2 μ2 H2 δ2 x dx e2 r2 hx q2 => ?_) q1
    obtain ⟨ns, m, rfl, rfl, hm, q2⟩ := q2
    obtain ⟨p, sa, rfl, h1, h2, h3⟩ := hx
    obtain ⟨n, h4, h5⟩ := r2.r3.ex.drw h1
    have hv : v = .int m := hv
    subst hv
    obtain ⟨r3, g⟩ := r2.r3.drwSet h1 hm
    exact ⟨p, _, 1, 1, rfl, rfl, h4, rfl, lf.nx S2 μ2 _ σ δ2 (r2.grow g r3) q2⟩⟩
def dDrwNew (da : DA) : DE := fun δ μ Q => da δ μ fun xs δ1 μ1 => ∃ x ns, xs = [x, .int 0] ∧ (x = .scr (ns.map .int) ∨ x = .lst (ns.map .int)) ∧ ns.length ≤ 63 ∧ Q (.drw ns) δ1 μ1
theorem d_drwNew {es : List Expr} {pos} {ta : TA} {da : DA} (h : PDA K Z X es ta da) : PD K Z X (.List es pos) (tLst ta) (dDrwNew da) := ⟨pe_lst h.p, fun B hB S μ H σ δ Q QD rl k q => by
  refine h.s B hB S μ H σ δ _ _ rl (fun S1 μ1 H1 δ1 xs ds e1 r1 hx q1 => ?_) q
  obtain ⟨x, ns, rfl, hn, hl, q1⟩ := q1
  obtain ⟨v, w, rfl, h1, h2⟩ := RepL.two' hx
  have h2 : w = .int 0 := h2
  subst h2
  obtain ⟨sa, rfl, h3⟩ : ∃ sa, v = .ref sa ∧ SqL K S1 sa (ns.map V.int) := by
    rcases hn with rfl | rfl
    · obtain ⟨a, vs, rfl, h3, h4⟩ := h1
      rw [RepL.int h4] at h3
      exact ⟨a, rfl, h3⟩
    · obtain ⟨a, vs, rfl, h3, h4⟩ := h1
      rw [RepL.int h4] at h3
      exact ⟨a, rfl, SqL.of h3⟩
  refine ⟨(by decide : (2 : Nat) ≤ sizeLine), fun p hp => ?_⟩
  obtain ⟨r2, g⟩ := r1.r3.drwNew (sa := sa) hp
  exact k _ μ1 _ δ1 _ (.drw ns) (e1.trans g.ex) (r1.grow g r2) ⟨p, sa, rfl, upd_same, ex_l g.ex h3, hl⟩ q1⟩
end Dl

namespace Dl
open PySem PySem.Spec PyProof.Rows L2
variable {X : Cx} {K : PySem.W.Frag} {Z : Bs}
theorem rm1 {k : Nat} {A : Around} (r : Room k A) : A.units + 1 < cLine := by have := r.un; omega
theorem rm80 {k : Nat} {A : Around} (r : Room k A) : A.units + 80 < cLine := by have := r.un; omega
/-! ### repr of data -/
mutual
def nodict : PyData → Bool
  | .list l => nodicts l
  | .tuple l => nodicts l
  | .none => true
  | .bool _ => true
  | .int _ => true
  | .str _ => true
  | _ => false
def nodicts : List PyData → Bool
  | [] => true
  | d :: ds => nodict d && nodicts ds
end
mutual
theorem pd_nodict : ∀ (d : D) (p : PyData), pd d = some p → p.hasDict = false
  | .non, p, q => by have q : some _ = some p := q; cases q; rfl
  | .bl b, p, q => by have q : some _ = some p := q; cases q; rfl
  | .int b, p, q => by have q : some _ = some p := q; cases q; rfl
  | .str b, p, q => by have q : some _ = some p := q; cases q; rfl
  | .tup l, p, q => by
    have q : (pds l).map PyData.tuple = some p := q
    cases e1 : pds l with
    | none => rw [e1] at q; cases q
    | some ps => rw [e1] at q; cases q; simpa [PyData.hasDict] using pds_nodict l ps e1
  | .lst l, p, q => by
    have q : (pds l).map PyData.list = some p := q
    cases e1 : pds l with
    | none => rw [e1] at q; cases q
    | some ps => rw [e1] at q; cases q; simpa [PyData.hasDict] using pds_nodict l ps e1
  | .scr l, p, q => by
    have q : (pds l).map PyData.list = some p := q
    cases e1 : pds l with
    | none => rw [e1] at q; cases q
    | some ps => rw [e1] at q; cases q; simpa [PyData.hasDict] using pds_nodict l ps e1
  | .ref _, _, q => nomatch q
  | .ty _, _, q => nomatch q
  | .dct _, _, q => nomatch q
  | .dcT _, _, q => nomatch q
  | .obj _ _, _, q => nomatch q
  | .exc _ _ _, _, q => nomatch q
  | .drw _, _, q => nomatch q
theorem pds_nodict : ∀ (d : List D) (p : List PyData), pds d = some p → PyData.hasDictAll p = false
  | [], p, q => by have q : some [] = some p := q; cases q; rfl
  | d :: ds, p, q => by
    have q : (pd d).bind (fun x => (pds ds).map (x :: ·)) = some p := q
    cases e1 : pd d with
    | none => rw [e1] at q; cases q
    | some y =>
      rw [e1] at q
      cases e2 : pds ds with
      | none => rw [e2] at q; cases q
      | some ys =>
        rw [e2] at q
        have q : some (y :: ys) = some p := q
        cases q
        simp [PyData.hasDictAll, pd_nodict d y e1, pds_nodict ds ys e2]
end
def rRepr (K : PySem.W.Frag) : List V → Hp → VK → Prop := fun xs H Q => ∃ a d, xs = [.ref a] ∧ Dp K H (.ref a) d ∧ d.showable = true ∧ d.hasDict = false ∧ d.depth ≤ 64 ∧ d.shown.length ≤ sizeLine ∧ Q (.str d.shown) H
theorem call_reprD (hg : X.A.guards = some []) (hu : X.A.units + 80 < cLine) : CallR X (.builtin "repr") (rRepr X.K) := fun pins s σ H xs us Q I r h => by
  obtain ⟨a, d, rfl, hd, hs, hn, hdp, hz, q⟩ := h
  obtain ⟨u, rfl, hu1⟩ := vals1 r
  obtain rfl : u = Value.ref a := hu1
  obtain ⟨as, rd⟩ := Dp.reads I d _ _ hd rfl
  exact repr_of_reads' rd hs (fun z => by rw [hn] at z; cases z) hg (by omega) (fun _ _ e => e) (fun h' u tk hk => ⟨.str _, H, I.kept (t' := tk) hk, ⟨u, rfl⟩, q⟩) hz
/-- what repr tells, where it is told -/
def shownD (x : D) : Str := match pd x with
  | some p => p.shown
  | none => ""
def okR (x : D) : Prop := ∃ p, pd x = some p ∧ p.showable = true ∧ p.depth ≤ 64 ∧ p.shown.length ≤ sizeLine
def isSeqD : D → Bool
  | .lst _ => true
  | .scr _ => true
  | .tup _ => true
  | _ => false
def rdRepr : DC := fun xs μ Q => ∃ x, xs = [x] ∧ isSeqD x = true ∧ okR x ∧ Q (.str (shownD x)) μ
theorem c_repr (hg : X.A.guards = some []) (hu : X.A.units + 80 < cLine) (hk : X.K = K := by rfl) : PDC K X (.builtin "repr") (rRepr K) rdRepr := by
  subst hk
  exact ⟨call_reprD hg hu, fun S μ H xs ds Q QD r hx k q => by
    obtain ⟨x, rfl, hs, ⟨p, e, h1, h2, h3⟩, q⟩ := q
    obtain ⟨v, rfl, hv⟩ := RepL.one' hx
    obtain ⟨a, rfl⟩ : ∃ a, v = .ref a := by
      cases x with
      | lst l => obtain ⟨a, vs, rfl, _⟩ := hv; exact ⟨a, rfl⟩
      | scr l => obtain ⟨a, vs, rfl, _⟩ := hv; exact ⟨a, rfl⟩
      | tup l => obtain ⟨a, vs, rfl, _⟩ := hv; exact ⟨a, rfl⟩
      | _ => cases hs
    exact ⟨a, p, rfl, dp_of r.ex _ _ _ hv e, h1, pd_nodict _ _ e, h2, h3, k S μ H _ (.str (shownD x)) Grow.refl r (by unfold shownD; rw [e]; rfl) q⟩⟩
/-! what may be shown -/
def okN (n m : Nat) (x : D) : Prop := ∃ p, pd x = some p ∧ p.showable = true ∧ p.depth ≤ m ∧ p.shown.length ≤ n
def okNs (n m : Nat) (l : List D) : Prop := ∃ ps, pds l = some ps ∧ PyData.showableAll ps = true ∧ PyData.depthAll ps ≤ m ∧ ((PyData.shownAll ps).map (·.length)).sum + 2 * (PyData.shownAll ps).length ≤ n
theorem okN.ok {n m : Nat} {x : D} (h : okN n m x) (hm : m ≤ 64) (hn : n ≤ 16777216) : okR x := by
  obtain ⟨p, h1, h2, h3, h4⟩ := h
  exact ⟨p, h1, h2, by omega, Nat.le_trans h4 hn⟩
theorem okN.mono {n m n' m' : Nat} {x : D} (h : okN n m x) (hn : n ≤ n') (hm : m ≤ m') : okN n' m' x := by
  obtain ⟨p, h1, h2, h3, h4⟩ := h
  exact ⟨p, h1, h2, by omega, by omega⟩
theorem okNs.mono {n m n' m' : Nat} {x : List D} (h : okNs n m x) (hn : n ≤ n') (hm : m ≤ m') : okNs n' m' x := by
  obtain ⟨p, h1, h2, h3, h4⟩ := h
  exact ⟨p, h1, h2, by omega, by omega⟩
theorem okn_int {i : Int} (h1 : -10000000000000000000000000000000000000000 < i) (h2 : i < 10000000000000000000000000000000000000000) : okN 41 1 (.int i) := by
  have hn : i.natAbs < 10 ^ 40 := by
    have e : (10 : Nat) ^ 40 = 10000000000000000000000000000000000000000 := by decide
    rw [e]; omega
  refine ⟨.int i, rfl, ?_, by simp [PyData.depth], ?_⟩
  · have : i.natAbs.log2 < 1920 := by
      by_cases h0 : i.natAbs = 0
      · rw [h0]; decide
      · exact (Nat.log2_lt h0).mpr (Nat.lt_of_lt_of_le hn (by decide +kernel))
    simpa [PyData.showable] using this
  · have e : (PyData.int i).shown = Str.ofString (toString i) := by simp [PyData.shown]
    rw [e, PySem.ofString_length]
    exact int_text_length_le10 (by decide) hn
theorem okn_bl {b : Bool} : okN 5 1 (.bl b) := by
  refine ⟨.bool b, rfl, rfl, by simp [PyData.depth], ?_⟩
  cases b <;> decide +kernel
theorem okn_non : okN 5 1 .non := ⟨.none, rfl, rfl, by simp [PyData.depth], by decide +kernel⟩
theorem okn_str {z : Str} {n : Nat} (h : ∀ c ∈ z.cps.toList, c < 0x110000) (hl : z.length ≤ n) : okN (10 * n + 2) 1 (.str z) := by
  refine ⟨.str z, rfl, rfl, by simp [PyData.depth], ?_⟩
  have := StrLaws.reprText_len z fun c hc => Nat.lt_of_lt_of_le (h c hc) (by decide)
  have e : (PyData.str z).shown = reprText z := by simp [PyData.shown]
  rw [e]
  omega
theorem okns_nil {m : Nat} : okNs 0 m [] := ⟨[], rfl, rfl, by simp [PyData.depthAll], by simp [PyData.shownAll]⟩
theorem okns_cons {n m n' : Nat} {x : D} {l : List D} (h : okN n m x) (h' : okNs n' m l) : okNs (n + 2 + n') m (x :: l) := by
  obtain ⟨p, h1, h2, h3, h4⟩ := h
  obtain ⟨ps, g1, g2, g3, g4⟩ := h'
  refine ⟨p :: ps, ?_, ?_, ?_, ?_⟩
  · show (pd x).bind (fun y => (pds l).map (y :: ·)) = _
    rw [h1, g1]; rfl
  · simp [PyData.showableAll, h2, g2]
  · simp only [PyData.depthAll]; omega
  · simp only [PyData.shownAll, List.map_cons, List.sum_cons, List.length_cons]
    omega
theorem okns_map {α : Type} {n m : Nat} {f : α → D} : ∀ {l : List α}, (∀ a ∈ l, okN n m (f a)) → okNs (l.length * (n + 2)) m (l.map f)
  | [], _ => okns_nil.mono (by omega) (Nat.le_refl _)
  | a :: l, h => (okns_cons (h a List.mem_cons_self) (okns_map fun b hb => h b (List.mem_cons_of_mem _ hb))).mono (by rw [List.length_cons, Nat.add_mul]; omega) (Nat.le_refl _)
theorem okns_app {n m n' : Nat} : ∀ {l l' : List D}, okNs n m l → okNs n' m l' → okNs (n + n') m (l ++ l')
  | [], l', _, h => h.mono (by omega) (Nat.le_refl _)
  | x :: l, l', h, h' => by
    obtain ⟨ps, g1, g2, g3, g4⟩ := h
    have g1 : (pd x).bind (fun y => (pds l).map (y :: ·)) = some ps := g1
    cases e1 : pd x with
    | none => rw [e1] at g1; cases g1
    | some y =>
      cases e2 : pds l with
      | none => rw [e1, e2] at g1; cases g1
      | some ys =>
        rw [e1, e2] at g1
        have g1 : some (y :: ys) = some ps := g1
        cases g1
        simp only [PyData.showableAll, Bool.and_eq_true] at g2
        simp only [PyData.depthAll] at g3
        simp only [PyData.shownAll, List.map_cons, List.sum_cons, List.length_cons] at g4
        have hx : okN y.shown.length m x := ⟨y, e1, g2.1, by omega, Nat.le_refl _⟩
        have hl : okNs (((PyData.shownAll ys).map (·.length)).sum + 2 * (PyData.shownAll ys).length) m l := ⟨ys, e2, g2.2, by omega, Nat.le_refl _⟩
        exact (okns_cons hx (okns_app hl h')).mono (by omega) (Nat.le_refl _)
theorem okn_lst {n m : Nat} {l : List D} (h : okNs n m l) : okN (n + 3) (m + 1) (.lst l) := by
  obtain ⟨ps, g1, g2, g3, g4⟩ := h
  refine ⟨.list ps, by show (pds l).map PyData.list = _; rw [g1]; rfl, by simpa [PyData.showable] using g2, by simp only [PyData.depth]; omega, ?_⟩
  have := listText_len_le (PyData.shownAll ps)
  have e : (PyData.list ps).shown = listText (PyData.shownAll ps) := by simp [PyData.shown]
  rw [e]; omega
theorem okn_tup {n m : Nat} {l : List D} (h : okNs n m l) : okN (n + 5) (m + 1) (.tup l) := by
  obtain ⟨ps, g1, g2, g3, g4⟩ := h
  refine ⟨.tuple ps, by show (pds l).map PyData.tuple = _; rw [g1]; rfl, by simpa [PyData.showable] using g2, by simp only [PyData.depth]; omega, ?_⟩
  have := tupleText_len_le (PyData.shownAll ps)
  have e : (PyData.tuple ps).shown = tupleText (PyData.shownAll ps) := by simp [PyData.shown]
  rw [e]; omega
end Dl

namespace Dl
open PySem PySem.Spec PyProof.Rows L2
variable {X : Cx} {K : PySem.W.Frag} {Z : Bs}
/-! ### methods called with names -/
/-- what stands behind the arguments by place: one by its name (true), or a default (false) -/
def pick {α : Type} (z : α) : List (Bool × Nat) → List α → List α → List α
  | [], _, _ => []
  | (true, i) :: r, ws, ds => ws.getD i z :: pick z r ws ds
  | (false, i) :: r, ws, ds => ds.getD i z :: pick z r ws ds
theorem RepL.getD {S : Hp} {ds : List D} {vs : List V} (h : RepL K S ds vs) (i : Nat) : Rep K S (ds.getD i .non) (vs.getD i .non) := by
  have e := RepL.length h
  cases q : ds[i]? with
  | none =>
    have hi : ds.length ≤ i := List.getElem?_eq_none_iff.mp q
    rw [List.getD_eq_getElem?_getD, List.getD_eq_getElem?_getD, q, List.getElem?_eq_none (by omega)]
    rfl
  | some d =>
    obtain ⟨v, e2, hv⟩ := RepL.get h q
    rw [List.getD_eq_getElem?_getD, List.getD_eq_getElem?_getD, q, e2]
    exact hv
theorem RepL.pick {S : Hp} {es ds : List D} {zs vs : List V} (h1 : RepL K S es zs) (h2 : RepL K S ds vs) : ∀ pk : List (Bool × Nat), RepL K S (pick .non pk es ds) (Dl.pick .non pk zs vs)
  | [] => rfl
  | (true, i) :: r => ⟨_, _, rfl, RepL.getD h1 i, RepL.pick h1 h2 r⟩
  | (false, i) :: r => ⟨_, _, rfl, RepL.getD h2 i, RepL.pick h1 h2 r⟩
theorem vals_getD {vs : List V} {us : List Value} (h : Vals vs us) (i : Nat) : RelV (vs.getD i .non) (us.getD i .none) := by
  have e := h.length
  cases q : vs[i]? with
  | none =>
    have hi : vs.length ≤ i := List.getElem?_eq_none_iff.mp q
    rw [List.getD_eq_getElem?_getD, List.getD_eq_getElem?_getD, q, List.getElem?_eq_none (by omega)]
    rfl
  | some d =>
    obtain ⟨v, e2, hv⟩ := h.get q
    rw [List.getD_eq_getElem?_getD, List.getD_eq_getElem?_getD, q, e2]
    exact hv
theorem vals_pick {zs vs : List V} {ws us : List Value} (h1 : Vals zs ws) (h2 : Vals vs us) : ∀ pk : List (Bool × Nat), Vals (pick .non pk zs vs) (pick .none pk ws us)
  | [] => .nil
  | (true, i) :: r => .cons (vals_getD h1 i) (vals_pick h1 h2 r)
  | (false, i) :: r => .cons (vals_getD h2 i) (vals_pick h1 h2 r)
/-- how the names are bound -/
def KwOk (x qual : Str) (st : Stmt) (ps : List Str) (n m : Nat) (ks : List Str) (pk : List (Bool × Nat)) : Prop := ∀ (T : Addr) (kV doc pm : Value) (an : Option Addr) (cdv ct : Value) (us ws its : List Value), us.length = n → ws.length = ks.length → its.length = m →
  ∃ k, bindArgs (PySem.W.fnOf x qual (defArgs st) (defBody st) (defScope st) (.ref T) kV doc pm an cdv ct) ⟨us, ks.zip ws⟩ = seqItems? (.ref T) >>= k ∧ k (some its.toArray) = pure (ps.zip (us ++ pick .none pk ws its))
theorem meth_one {C f g : Addr} {m : Str} (h : Meth K C m f) (h' : Meth K C m g) : f = g := by
  have e := h.at_.symm.trans h'.at_
  cases e
  rfl
theorem kw_binds {C m qual : Str} {st : Stmt} {ps ks : List Str} {dvs : List V} {f : Addr} {fd : FuncData} {n : Nat} {pk : List (Bool × Nat)} (A : AtM K C m qual st dvs) (hm : Meth K (He.ga K C) m f) (hl : ∃ oc od osl, K.lookup f = some ⟨oc, od, .func fd, osl⟩) (hd : dvs ≠ []) (h : KwOk m qual st ps n dvs.length ks pk) :
    ∃ ds : List Value, Vals dvs ds ∧ ∀ (s : Shared) (us ws : List Value), K.In s.heap → us.length = n → ws.length = ks.length → BindsTo s fd ⟨us, ks.zip ws⟩ (ps.zip (us ++ pick .none pk ws ds)) := by
  obtain ⟨g, gd, F, hm', _⟩ := A.ex
  obtain rfl := meth_one hm hm'
  obtain ⟨oc, od, dV, kV, doc, pm, an, cdv, ct, osl, rfl, lk, hcd, hD, hK⟩ := F.ex
  obtain ⟨oc', od', osl', lk'⟩ := hl
  rw [lk] at lk'
  cases lk'
  rcases hD with ⟨e, _⟩ | ⟨_, T, o, its, q, rfl, lT, oT, rT⟩
  · exact absurd e hd
  · refine ⟨its, rT, fun s us ws KI h1 h2 => ?_⟩
    obtain ⟨k, e1, e2⟩ := h T kV doc pm an cdv ct us ws its h1 h2 rT.length.symm
    refine BindsTo.of_looks fun M => ?_
    rw [e1]
    exact looks_items KI lT oT (.of_pure e2)
theorem run_gk {CX : CXT} {k : Nat} {f : Addr} {fd : FuncData} {ps ks : List Str} {sp : Sp} {E : L2.St → XK} {pn : List (Addr × Obj)} {σ : L2.St} {H : Hp} {t : Shared} {Q : VK} {us ws fu : List Value} {fv : List V} (F : FnG X.prog X.w X.K X.mg X.base CX k f fd ps sp) (hg : X.A.guards = some []) (rm : Room k X.A) (hb : BindsTo t fd ⟨us, ks.zip ws⟩ (ps.zip fu)) (hx : PassesAt CX X σ (E σ))
    (I : Inv X pn σ H t) (rl : Vals fv fu) (h : sp fv H Q (E σ)) : wpAny (model X.prog X.w) X.A (call (.ref f) us (ks.zip ws)) (EP X pn σ Q) X.xe t := by
  refine wpAny_call (codeAny_mono (F.go X.A X.stack t H ⟨us, ks.zip ws⟩ fu fv Q (E σ) hg rm I.env0 hb rl h) fun r t1 hr => ?_)
  match r, hr with
  | .error e, hr => exact hx pn H t e t1 I hr
  | .ok (.ret u), hr => exact I.after hr
  | .ok .next, hr => exact False.elim hr
  | .ok .brk, hr => exact False.elim hr
  | .ok .cont, hr => exact False.elim hr
def tMethK (C : Addr) (m : Str) (n l : Nat) (pk : List (Bool × Nat)) (sp : Sp) (dvs : List V) (E : L2.St → XK) (ta : TE) (t tk : TA) : TE := fun σ H Q => ta σ H fun x H1 => ∃ a dx fs, x = .ref a ∧ H1 a = some (.ins C dx fs) ∧ fs.lookup m = none ∧ t σ H1 fun vs H2 => tk σ H2 fun zs H3 => (x :: vs).length = n ∧ zs.length = l ∧ sp ((x :: vs) ++ pick .non pk zs dvs) H3 Q (E σ)
theorem pe_methK {CX : CXT} {k n : Nat} {f C : Addr} {fd : FuncData} {ps ks : List Str} {pk : List (Bool × Nat)} {sp : Sp} {dvs : List V} {ds : List Value} {E : L2.St → XK} {m : Str} {pos apos : Pos} {e o : Expr} {es : List Expr} {kws : List Keyword} {ta : TE} {t tk : TA} {pl : Sem Bool} (he : PE X o ta) (c : Cls X.K C) (hm : Meth X.K C m f)
    (F : FnG X.prog X.w X.K X.mg X.base CX k f fd ps sp) (gd : X.A.guards = some []) (hr : Room k X.A) (hd : Vals dvs ds) (hb : ∀ (s : Shared) (us ws : List Value), X.K.In s.heap → us.length = n → ws.length = ks.length → BindsTo s fd ⟨us, ks.zip ws⟩ (ps.zip (us ++ pick .none pk ws ds))) (hx : ∀ σ, PassesAt CX X σ (E σ)) (ha : PA X (e :: es) t) (hkw : PK X kws tk)
    (hall : (backToKw pos (keywordEach kws X.env)).all (·.1.isSome) = true) (hks : (backToKw pos (keywordEach kws X.env)).filterMap (·.1) = ks)
    (hst : starEach (e :: es) X.env = (false, eval e X.env) :: starEach es X.env) (hpl : ((backTo pos (starEach (e :: es) X.env)).any (·.1) || (backToKw pos (keywordEach kws X.env)).any (·.1.isNone)) = false)
    (ht : eval (.Call (.Attribute o m apos) (e :: es) kws pos) X.env = (do
      let ov ← eval o X.env
      standAt apos.atName
      let (f, first) ← holding [ov] (getMethod ov m pl)
      callWith pos f first (backTo pos (starEach (e :: es) X.env)) (backToKw pos (keywordEach kws X.env)))) :
    PE X (.Call (.Attribute o m apos) (e :: es) kws pos) (tMethK C m n ks.length pk sp dvs E ta t tk) := by
  refine ⟨fun pins s σ H Q I h => PySem.W.methodCall_KW (pl := pl) (thn (he.run pins s σ H _ I h) fun u s1 hu => ?_) ht⟩
  obtain ⟨x, H1, I1, rx, a, dx, fs, ex, ea, l, q⟩ := hu
  subst ex
  obtain rfl : u = Value.ref a := rx
  refine getmeth_ok I1 ea c hm l (PySem.W.callWith_KW (first := [.ref a]) (h₀ := X.base) I.ok.mod.kin hm.kp hall (thn (ha.run pos pins s1 σ H1 _ I1 q) fun us s2 hu2 => ?_) hpl hst)
  obtain ⟨vs, H2, I2, r, q2⟩ := hu2
  refine thn (hkw.run pos pins s2 σ H2 _ I2 q2) fun ws s3 hu3 => ?_
  obtain ⟨zs, H3, I3, rz, l1, l2, q3⟩ := hu3
  refine ⟨I3.kIn, ?_⟩
  rw [hks]
  have rv : Vals (V.ref a :: vs) (Value.ref a :: us) := .cons rfl r
  exact run_gk F gd hr (hb s3 (.ref a :: us) ws I3.kIn (rv.length.symm.trans l1) (rz.length.symm.trans l2)) (hx σ) I3 (rv.append (vals_pick rz hd pk)) q3
theorem pe_methK0 {CX : CXT} {k n : Nat} {f C : Addr} {fd : FuncData} {ps ks : List Str} {pk : List (Bool × Nat)} {sp : Sp} {dvs : List V} {ds : List Value} {E : L2.St → XK} {m : Str} {pos apos : Pos} {o : Expr} {kws : List Keyword} {ta : TE} {tk : TA} {pl : Sem Bool} (he : PE X o ta) (c : Cls X.K C) (hm : Meth X.K C m f)
    (F : FnG X.prog X.w X.K X.mg X.base CX k f fd ps sp) (gd : X.A.guards = some []) (hr : Room k X.A) (hd : Vals dvs ds) (hb : ∀ (s : Shared) (us ws : List Value), X.K.In s.heap → us.length = n → ws.length = ks.length → BindsTo s fd ⟨us, ks.zip ws⟩ (ps.zip (us ++ pick .none pk ws ds))) (hx : ∀ σ, PassesAt CX X σ (E σ)) (hkw : PK X kws tk)
    (hall : (backToKw pos (keywordEach kws X.env)).all (·.1.isSome) = true) (hks : (backToKw pos (keywordEach kws X.env)).filterMap (·.1) = ks) (hpl : ((backTo pos (starEach [] X.env)).any (·.1) || (backToKw pos (keywordEach kws X.env)).any (·.1.isNone)) = false)
    (ht : eval (.Call (.Attribute o m apos) [] kws pos) X.env = (do
      let ov ← eval o X.env
      standAt apos.atName
      let (f, first) ← holding [ov] (getMethod ov m pl)
      callWith pos f first (backTo pos (starEach [] X.env)) (backToKw pos (keywordEach kws X.env)))) :
    PE X (.Call (.Attribute o m apos) [] kws pos) (tMethK C m n ks.length pk sp dvs E ta tNil tk) := by
  refine ⟨fun pins s σ H Q I h => PySem.W.methodCall_KW (pl := pl) (thn (he.run pins s σ H _ I h) fun u s1 hu => ?_) ht⟩
  obtain ⟨x, H1, I1, rx, a, dx, fs, ex, ea, l, q⟩ := hu
  subst ex
  obtain rfl : u = Value.ref a := rx
  refine getmeth_ok I1 ea c hm l (PySem.W.callWith_KW0 (first := [.ref a]) (h₀ := X.base) I.ok.mod.kin hm.kp hall (thn (hkw.run pos pins s1 σ H1 _ I1 q) fun ws s3 hu3 => ?_) hpl)
  obtain ⟨zs, H3, I3, rz, l1, l2, q3⟩ := hu3
  refine ⟨I3.kIn, ?_⟩
  rw [hks]
  have rv : Vals [V.ref a] [Value.ref a] := .cons rfl .nil
  exact run_gk F gd hr (hb s3 [.ref a] ws I3.kIn (rv.length.symm.trans l1) (rz.length.symm.trans l2)) (hx σ) I3 (rv.append (vals_pick rz hd pk)) q3
structure PDK (K : PySem.W.Frag) (Z : Bs) (X : Cx) (e : List Keyword) (te : TA) (de : DA) : Prop where
  p : PK X e te
  s : SimA K Z te de
theorem k_nil : PDK K Z X [] tNil dNil := ⟨pk_nil, (a_nil (X := X)).s⟩
theorem k_cons {nm : Option Str} {e : Expr} {kp : Pos} {kws : List Keyword} {te : TE} {ta : TA} {de : DE} {da : DA} (h : PD K Z X e te de) (hr : PDK K Z X kws ta da) : PDK K Z X (⟨nm, e, kp⟩ :: kws) (tCons te ta) (dCons de da) :=
  ⟨pk_cons h.p hr.p, fun B hB S μ H σ δ Q QD rl k q => by
    refine h.s B hB S μ H σ δ _ _ rl (fun S1 μ1 H1 δ1 x dx e1 r1 hx q1 => ?_) q
    refine hr.s B hB S1 μ1 H1 σ δ1 _ _ r1 (fun S2 μ2 H2 δ2 xs ds e2 r2 h2 q2 => ?_) q1
    exact k S2 μ2 H2 δ2 _ (dx :: ds) (e1.trans e2) r2 ⟨x, xs, rfl, Rep.mono e2 _ _ hx, h2⟩ q2⟩
def dMethK (C m : Str) (n l : Nat) (pk : List (Bool × Nat)) (dsp : DSp) (dds : List D) (XD : DXW) (do_ : DE) (da dk : DA) : DE := fun δ μ Q => do_ δ μ fun x δ1 μ1 => ∃ fs, objOf μ1 x = some (C, fs) ∧ fs.lookup m = none ∧ da δ1 μ1 fun ds δ2 μ2 => dk δ2 μ2 fun es δ3 μ3 => (x :: ds).length = n ∧ es.length = l ∧ dsp ((x :: ds) ++ pick .non pk es dds) μ3 (fun d μ4 => Q d δ3 μ4) (fun c fs μ4 => XD c fs δ3 μ4)
theorem simMethK {C m : Str} {n l : Nat} {pk : List (Bool × Nat)} {dsp : DSp} {dvs : List V} {dds : List D} {W : WX} {XD : DXW} {to : TE} {do_ : DE} {ta tk : TA} {da dk : DA} (hd : Dfl dvs dds) (lx : LiftX K Z W XD) (ho : SimE K Z to do_) (ha : SimA K Z ta da) (hk : SimA K Z tk dk) :
    SimE K Z (tMethK (He.ga K C) m n l pk (up K dsp) dvs (WE W) to ta tk) (dMethK C m n l pk dsp dds XD do_ da dk) := fun B hB S μ H σ δ Q QD rl k q => by
  refine ho B hB S μ H σ δ _ _ rl (fun S1 μ1 H1 δ1 x dx e1 r1 hx q1 => ?_) q
  obtain ⟨fs, e2, e3, q1⟩ := q1
  obtain ⟨a, ax, gs, rfl, h1, h2⟩ := obj_is r1.r3 hx e2
  refine ⟨a, ax, gs, rfl, h1, RepF.none h2 e3, ?_⟩
  refine ha B hB S1 μ1 H1 σ δ1 _ _ r1 (fun S2 μ2 H2 δ2 xs ds e4 r2 hxs q2 => ?_) q1
  refine hk B hB S2 μ2 H2 σ δ2 _ _ r2 (fun S3 μ3 H3 δ3 zs es e5 r3 hzs q3 => ?_) q2
  obtain ⟨l1, l2, q3⟩ := q3
  have hfull : RepL K S3 (dx :: ds) (V.ref a :: xs) := ⟨_, _, rfl, Rep.mono (e4.trans e5) _ _ hx, RepL.mono e5 _ _ hxs⟩
  refine ⟨(RepL.length hfull).trans l1, (RepL.length hzs).trans l2, S3, μ3, (dx :: ds) ++ pick .non pk es dds, fun d μ4 => QD d δ3 μ4, fun c fs μ4 => XD c fs δ3 μ4, r3.r3, RepL.append hfull (RepL.pick hzs (hd.r K S3) pk), q3, fun S4 μ4 H4 v d g r4 hv q4 => ?_, fun S4 μ4 H4 c fs a g r4 hx q4 => ?_⟩
  · exact k S4 μ4 H4 δ3 v d (((e1.trans e4).trans e5).trans g.ex) (r3.grow g r4) hv q4
  · exact lx B S4 μ4 H4 σ δ3 c fs a hB (r3.grow g r4) hx q4
theorem d_methK {k n : Nat} {C m qual : Str} {st : Stmt} {ps ks : List Str} {pk : List (Bool × Nat)} {dvs : List V} {dds : List D} {dsp : DSp} {pos apos : Pos} {e o : Expr} {es : List Expr} {kws : List Keyword} {to : TE} {do_ : DE} {ta tk : TA} {da dk : DA} {W : WX} {XD : DXW} {pl : Sem Bool} (F : CalM X.prog X.w K X.mg X.base k C m ps dvs dsp) (A : AtM K C m qual st dvs) (hd0 : dvs ≠ []) (hkw : KwOk m qual st ps n dvs.length ks pk) (hd : Dfl dvs dds) (hr : Room k X.A) (M : Md K Z X W XD) (ho : PD K Z X o to do_) (ha : PDA K Z X (e :: es) ta da) (hks : PDK K Z X kws tk dk) (hk : X.K = K := by rfl)
    (hall : (backToKw pos (keywordEach kws X.env)).all (·.1.isSome) = true := by rfl) (hkn : (backToKw pos (keywordEach kws X.env)).filterMap (·.1) = ks := by rfl)
    (hst : starEach (e :: es) X.env = (false, eval e X.env) :: starEach es X.env := by rfl) (hpl : ((backTo pos (starEach (e :: es) X.env)).any (·.1) || (backToKw pos (keywordEach kws X.env)).any (·.1.isNone)) = false := by rfl)
    (ht : eval (.Call (.Attribute o m apos) (e :: es) kws pos) X.env = (do
      let ov ← eval o X.env
      standAt apos.atName
      let (f, first) ← holding [ov] (getMethod ov m pl)
      callWith pos f first (backTo pos (starEach (e :: es) X.env)) (backToKw pos (keywordEach kws X.env))) := by rfl) :
    PD K Z X (.Call (.Attribute o m apos) (e :: es) kws pos) (tMethK (He.ga K C) m n ks.length pk (up K dsp) dvs (WE W) to ta tk) (dMethK C m n ks.length pk dsp dds XD do_ da dk) := by
  subst hk
  obtain ⟨f, fd, G, hm, hc, _, hl⟩ := F.ex
  obtain ⟨ds, hv, hb⟩ := kw_binds A hm hl hd0 hkw
  exact ⟨pe_methK ho.p hc hm G M.gd hr hv hb (fun σ => passAt M.tk σ) ha.p hks.p hall hkn hst hpl ht, simMethK hd M.lx ho.s ha.s hks.s⟩
theorem d_methK0 {k n : Nat} {C m qual : Str} {st : Stmt} {ps ks : List Str} {pk : List (Bool × Nat)} {dvs : List V} {dds : List D} {dsp : DSp} {pos apos : Pos} {o : Expr} {kws : List Keyword} {to : TE} {do_ : DE} {tk : TA} {dk : DA} {W : WX} {XD : DXW} {pl : Sem Bool} (F : CalM X.prog X.w K X.mg X.base k C m ps dvs dsp) (A : AtM K C m qual st dvs) (hd0 : dvs ≠ []) (hkw : KwOk m qual st ps n dvs.length ks pk) (hd : Dfl dvs dds) (hr : Room k X.A) (M : Md K Z X W XD) (ho : PD K Z X o to do_) (hks : PDK K Z X kws tk dk) (hk : X.K = K := by rfl)
    (hall : (backToKw pos (keywordEach kws X.env)).all (·.1.isSome) = true := by rfl) (hkn : (backToKw pos (keywordEach kws X.env)).filterMap (·.1) = ks := by rfl) (hpl : ((backTo pos (starEach [] X.env)).any (·.1) || (backToKw pos (keywordEach kws X.env)).any (·.1.isNone)) = false := by rfl)
    (ht : eval (.Call (.Attribute o m apos) [] kws pos) X.env = (do
      let ov ← eval o X.env
      standAt apos.atName
      let (f, first) ← holding [ov] (getMethod ov m pl)
      callWith pos f first (backTo pos (starEach [] X.env)) (backToKw pos (keywordEach kws X.env))) := by rfl) :
    PD K Z X (.Call (.Attribute o m apos) [] kws pos) (tMethK (He.ga K C) m n ks.length pk (up K dsp) dvs (WE W) to tNil tk) (dMethK C m n ks.length pk dsp dds XD do_ dNil dk) := by
  subst hk
  obtain ⟨f, fd, G, hm, hc, _, hl⟩ := F.ex
  obtain ⟨ds, hv, hb⟩ := kw_binds A hm hl hd0 hkw
  exact ⟨pe_methK0 ho.p hc hm G M.gd hr hv hb (fun σ => passAt M.tk σ) hks.p hall hkn hpl ht, simMethK hd M.lx ho.s (a_nil (X := X)).s hks.s⟩
end Dl

namespace Dl
open PySem PySem.Spec PyProof.Rows L2
variable {X : Cx} {K : PySem.W.Frag} {Z : Bs}
/-! ### len of an own object -/
theorem pass_in1 {A : Around} (h : A.guards = some []) : A.in1.guards = some [] := h
def tLenM (C : Addr) (sp : Sp) (E : L2.St → XK) (ta : TE) : TE := fun σ H Q => tCons ta tNil σ H fun vs H1 => ∃ a dx fs, vs = [.ref a] ∧ H1 a = some (.ins C dx fs) ∧ sp [.ref a] H1 (fun v H2 => ∃ n : Int, v = .int n ∧ 0 ≤ n ∧ n < 2 ^ 63 ∧ Q (.int n) H2) (E σ)
theorem pe_lenM {CX : CXT} {k : Nat} {f C : Addr} {fd : FuncData} {ps : List Str} {sp : Sp} {E : L2.St → XK} {p pos : Pos} {o : Expr} {ta : TE} (he : PE X o ta) (hm : Meth X.K C "__len__" f) (F : FnG X.prog X.w X.K X.mg X.base CX k f fd ps sp) (gd : X.A.guards = some []) (hr : Room (k + 1) X.A) (hb : Binds X.K fd ps []) (hx : ∀ σ, PassesAt CX X σ (E σ))
    (hg : Gl X "len") (hmg : X.mg "len" = none) (hs : starEach [o] X.env = (false, eval o X.env) :: starEach [] X.env) : PE X (.Call (.Name "len" p) [o] [] pos) (tLenM C sp E ta) := by
  have key : ∀ σ, ∀ (pins : List (Addr × Obj)) (s : Shared) (H : Hp) (vs : List V) (us : List Value) (Q : VK), Inv X pins σ H s → Vals vs us → (∃ a dx fs, vs = [.ref a] ∧ H a = some (.ins C dx fs) ∧ sp [.ref a] H (fun v H2 => ∃ n : Int, v = .int n ∧ 0 ≤ n ∧ n < 2 ^ 63 ∧ Q (.int n) H2) (E σ)) → wpAny (model X.prog X.w) X.A (call (.builtin "len") us) (EP X pins σ Q) X.xe s := by
    intro σ pins s H vs us Q I rl h
    obtain ⟨a, dx, fs, rfl, ha, h⟩ := h
    rw [Vals.ref1 rl]
    obtain ⟨mA, J, _⟩ := ins_get I.hok ha
    obtain ⟨od, J, _⟩ := J.look
    obtain ⟨m, hF⟩ := I.fr
    refine PySem.W.len_K hF I.ok.mod.kin J hm.at_ hm.fn ?_
    have r2 : Vals [V.ref a] [Value.ref a] := .cons rfl .nil
    refine wpAny_call (codeAny_mono (F.go X.A.in1 X.stack s H ⟨[.ref a], []⟩ [.ref a] [.ref a] _ (E σ) gd hr.in1 I.env0.in1 (by
      have z := hb s [.ref a] I.kIn (by simpa using F.ln _ _ _ _ h)
      simpa using z) r2 h) fun r t hq => ?_)
    match r, hq with
    | .error e, hq => exact hx σ pins H s e t I hq
    | .ok (.ret u), hq =>
      obtain ⟨z, H', I', rz, n, ez, n0, n1, q⟩ := I.after hq
      subst ez
      obtain ⟨tk, rfl⟩ := rz
      exact ⟨⟨n0, n1⟩, .int n, H', I'.tok _, ⟨_, rfl⟩, q⟩
    | .ok .next, hq => exact False.elim hq
    | .ok .brk, hq => exact False.elim hq
    | .ok .cont, hq => exact False.elim hq
  refine ⟨fun pins s σ H Q I h => wpAny_Call_Name_kw (ld_blt I hg hmg PySem.boot_len ?_ (by decide) (by decide))⟩
  exact PyProof.Rows.callWith_builtin1 (thn ((pa_cons he pa_nil hs).run pos pins s σ H _ I h) fun us s1 ⟨vs, H1, I1, r1, q1⟩ => key σ pins s1 H1 vs us Q I1 r1 q1) hs (by rfl)
def dLenM (C : Str) (dsp : DSp) (XD : DXW) (da : DE) : DE := fun δ μ Q => da δ μ fun x δ1 μ1 => ∃ fs, objOf μ1 x = some (C, fs) ∧ dsp [x] μ1 (fun d μ2 => ∃ n : Int, d = .int n ∧ 0 ≤ n ∧ n < 2 ^ 63 ∧ Q (.int n) δ1 μ2) (fun c fs μ2 => XD c fs δ1 μ2)
theorem d_lenM {k : Nat} {C : Str} {ps : List Str} {dsp : DSp} {p pos : Pos} {o : Expr} {ta : TE} {da : DE} {W : WX} {XD : DXW} (F : CalM X.prog X.w K X.mg X.base k C "__len__" ps [] dsp) (hr : Room (k + 1) X.A) (M : Md K Z X W XD) (hmg : X.mg "len" = none) (ho : PD K Z X o ta da) (hk : X.K = K := by rfl) (hg : Gl X "len" := by rfl) (hs : starEach [o] X.env = (false, eval o X.env) :: starEach [] X.env := by rfl) :
    PD K Z X (.Call (.Name "len" p) [o] [] pos) (tLenM (He.ga K C) (up K dsp) (WE W) ta) (dLenM C dsp XD da) := by
  subst hk
  obtain ⟨f, fd, G, hm, hc, hb, _⟩ := F.ex
  obtain ⟨ds, hv, hb⟩ := hb 0 (Nat.le_refl _)
  have e : ds = [] := List.length_eq_zero_iff.mp hv.length.symm
  subst e
  refine ⟨pe_lenM ho.p hm G M.gd hr hb (fun σ => passAt M.tk σ) hg hmg hs, fun B hB S μ H σ δ Q QD rl k q => ?_⟩
  refine ho.s B hB S μ H σ δ _ _ rl (fun S1 μ1 H1 δ1 x dx e1 r1 hx q1 => ?_) q
  obtain ⟨fs, e2, q1⟩ := q1
  obtain ⟨a, ax, gs, rfl, h1, h2⟩ := obj_is r1.r3 hx e2
  refine ⟨a, ax, gs, rfl, h1, S1, μ1, [dx], _, _, r1.r3, RepL.one hx, q1, fun S2 μ2 H2 v d g r2 hv q2 => ?_, fun S2 μ2 H2 c fs a g r2 hx q2 => ?_⟩
  · obtain ⟨n, rfl, n0, n1, q2⟩ := q2
    exact ⟨n, hv, n0, n1, k S2 μ2 H2 δ1 _ (.int n) (e1.trans g.ex) (r1.grow g r2) rfl q2⟩
  · exact M.lx B S2 μ2 H2 σ δ1 c fs a hB (r1.grow g r2) hx q2
end Dl

namespace Dl
open PySem PySem.Spec PyProof.Rows L2
variable {X : Cx} {K : PySem.W.Frag} {Z : Bs}
/-! ### while -/
def dWhile (dc : DT) (db : DS) : DS := fun DD δ μ => ∃ W : Nat → Ss → Mem → Prop, (∃ m, Wn (W m) δ μ) ∧ ∀ m δ μ, W m δ μ → dc δ μ fun b δ1 μ1 =>
  if b = true then db { DD with nx := fun δ' μ' => ∃ m', m' < m ∧ Wn (W m') δ' μ', ct := fun δ' μ' => ∃ m', m' < m ∧ Wn (W m') δ' μ', bk := DD.nx } δ1 μ1 else DD.nx δ1 μ1
theorem s_while {c : Expr} {body : List Stmt} {pos : Pos} {tc : TT} {tb : TS} {dc : DT} {db : DS} (hp : PassesOwn (model X.prog X.w) X.A X.env X.xe) (hc : PDT K Z X c tc dc) (hb : PDSs K Z X body tb db) : PDS K Z X (.While c body [] pos) (tWhile tc tb) (dWhile dc db) :=
  ⟨ps_while hp hc.p hb.p, fun B hB S μ H σ δ E DD rl lf q => by
    obtain ⟨W, ⟨m0, δa, μa, w0, la, ma⟩, turn⟩ := q
    refine ⟨fun m σ H => ∃ S μ δ, Rel K B S μ H σ δ ∧ W m δ μ, ⟨m0, S, μa, δa, (rl.le la).leM ma, w0⟩, ?_⟩
    rintro m σ1 H1 ⟨S1, μ1, δ1, r1, w1⟩
    refine hc.s B hB S1 μ1 H1 σ1 δ1 _ _ r1 (fun S2 μ2 H2 δ2 b e2 r2 q2 => ?_) (turn m δ1 μ1 w1)
    cases b with
    | false =>
      rw [if_neg Bool.false_ne_true] at q2 ⊢
      exact lf.nx S2 μ2 H2 σ1 δ2 r2 q2
    | true =>
      rw [if_pos rfl] at q2 ⊢
      refine ⟨fun σ' H' => ∃ m', m' < m ∧ ∃ S μ δ, Rel K B S μ H' σ' δ ∧ W m' δ μ, fun σ' H' h => h, ?_⟩
      refine hb.s B hB S2 μ2 H2 σ1 δ2 _ { DD with nx := fun δ' μ' => ∃ m', m' < m ∧ Wn (W m') δ' μ', ct := fun δ' μ' => ∃ m', m' < m ∧ Wn (W m') δ' μ', bk := DD.nx } r2 ⟨fun S5 μ5 H5 σ5 δ5 r5 ⟨m', hm, δ0, μ0, q5, l5, m5⟩ => ⟨m', hm, S5, μ0, δ0, (r5.le l5).leM m5, q5⟩, lf.rt, lf.nx, fun S5 μ5 H5 σ5 δ5 r5 ⟨m', hm, δ0, μ0, q5, l5, m5⟩ => ⟨m', hm, S5, μ0, δ0, (r5.le l5).leM m5, q5⟩⟩ q2⟩
/-! ### methods that change a list -/
abbrev LM := List D → List D → Mem → (D → List D → Prop) → Prop
def SimLM (K : PySem.W.Frag) (r : V → List V → Hp → VK → Prop) (lm : LM) : Prop := ∀ (S : Hp) (μ : Mem) (H : Hp) (p : Addr) (vs : List V) (l : List D) (xs : List V) (ds : List D) (Q : VK) (R : D → List D → Prop), R3 K S μ H → H p = some (.lst vs) → RepL K S l vs → RepL K S ds xs →
  (∀ v vs' d l', Rep K S d v → RepL K S l' vs' → R d l' → Q v (upd H p (.lst vs'))) → lm ds l μ R → r (.ref p) xs H Q
def dLMO (i : Nat) (lm : LM) (da : DA) : DE := fun δ μ Q => (∃ l, δ[i]? = some (.own (.lst l))) ∧ da δ μ fun ds δ1 μ1 => ∃ l, δ1[i]? = some (.own (.lst l)) ∧ lm ds l μ1 fun d l' => Q d (δ1.set i (.own (.lst l'))) μ1
def dLMM (do_ : DE) (lm : LM) (da : DA) : DE := fun δ μ Q => do_ δ μ fun x δ1 μ1 => (∃ p l, x = .ref p ∧ μ1 p = some (.lst l)) ∧ da δ1 μ1 fun ds δ2 μ2 => ∃ p l, x = .ref p ∧ μ2 p = some (.lst l) ∧ lm ds l μ2 fun d l' => Q d δ2 (updM μ2 p (.lst l'))
theorem simLMO {i : Nat} {r : V → List V → Hp → VK → Prop} {lm : LM} {ta : TA} {da : DA} (hs : SimLM K r lm) (ha : SimA K Z ta da) : SimE K Z (tBM K "list" r (tVar i) ta) (dLMO i lm da) := fun B hB S μ H σ δ Q QD rl k q => by
  obtain ⟨⟨l, e⟩, q⟩ := q
  obtain ⟨p, o, e1, h1, vs, rfl, h2⟩ := rl.ownAt e
  refine ⟨.ref p, e1, .inl ⟨rfl, vs, SqL.of h1⟩, ?_⟩
  refine ha B hB S μ H σ δ _ _ rl (fun S1 μ1 H1 δ1 xs ds e2 r1 hx q1 => ?_) q
  obtain ⟨l', e3, q1⟩ := q1
  obtain ⟨p', o', e4, h4, ws, rfl, h5⟩ := r1.ownAt e3
  rw [e1] at e4
  cases e4
  exact hs S1 μ1 H1 p ws l' xs ds _ _ r1.r3 h4 h5 hx (fun v vs' d l2 hv hl qd => k S1 μ1 _ _ v d e2 (r1.write e3 e1 (m := .lst l2) ⟨vs', rfl, hl⟩) hv qd) q1
theorem simLMM {r : V → List V → Hp → VK → Prop} {lm : LM} {to : TE} {do_ : DE} {ta : TA} {da : DA} (hs : SimLM K r lm) (ho : SimE K Z to do_) (ha : SimA K Z ta da) : SimE K Z (tBM K "list" r to ta) (dLMM do_ lm da) := fun B hB S μ H σ δ Q QD rl k q => by
  refine ho B hB S μ H σ δ _ _ rl (fun S1 μ1 H1 δ1 x dx e1 r1 hx q1 => ?_) q
  obtain ⟨⟨p, l, rfl, hm⟩, q1⟩ := q1
  have hx : x = .ref p := hx
  subst hx
  obtain ⟨_, o, h1, vs, rfl, h2⟩ := r1.r3.mu p _ hm
  refine ⟨.inl ⟨rfl, vs, SqL.of h1⟩, ?_⟩
  refine ha B hB S1 μ1 H1 σ δ1 _ _ r1 (fun S2 μ2 H2 δ2 xs ds e2 r2 hxs q2 => ?_) q1
  obtain ⟨p', l', e, hm', q2⟩ := q2
  cases e
  obtain ⟨_, o, h3, ws, rfl, h4⟩ := r2.r3.mu p _ hm'
  refine hs S2 μ2 H2 p ws l' xs ds _ _ r2.r3 h3 h4 hxs (fun v vs' d l2 hv hl qd => ?_) q2
  obtain ⟨r4, g⟩ := r2.r3.write hm' (o := .lst vs') (m := .lst l2) ⟨vs', rfl, hl⟩
  exact k _ _ _ δ2 v d (e1.trans e2) (r2.grow g r4) hv qd
theorem bm0_sim {r : V → List V → Hp → VK → Prop} {to : TE} {de : DE} (h : SimE K Z (tBM K "list" r to tNil) de) : SimE K Z (tBM0 K "list" r to) de := h
theorem d_lmO {name : Str} {id : String} {x : Str} {p1 apos cpos : Pos} {e : Expr} {es : List Expr} {r : V → List V → Hp → VK → Prop} {lm : LM} {ta : TA} {da : DA} (i : Nat) (slot : Slot "list" name id) (hty : typeOf (.builtin id) = pure (.type "method_descriptor")) (hm : MtR X id r) (hs : SimLM K r lm) (ha : PDA K Z X (e :: es) ta da) (hN : X.N[i]? = some x := by rfl) (hv : Vis X.env.scope x := by first | exact Or.inl rfl | exact Or.inr (Or.inl rfl) | exact Or.inr (Or.inr rfl)) (hd : (x == ("__debug__" : Str)) = false := by decide) (hcd : (x == ("__classdict__" : Str)) = false := by decide) (hbase : attributeBase (.Name x p1) name X.env (eval (.Name x p1) X.env) = eval (.Name x p1) X.env := by rfl)
    (hfew : ((backTo cpos (starEach (e :: es) X.env)).all (fun x => !x.1) && (backToKw cpos (keywordEach [] X.env)).all (fun x => x.1.isSome) && decide ((e :: es).length + ([] : List Keyword).length + (if ([] : List Keyword).isEmpty then 0 else 1) < 30)) = true := by rfl)
    (hline : (apos.endLine == cpos.line) = true := by rfl) (hst : starEach (e :: es) X.env = (false, eval e X.env) :: starEach es X.env := by rfl) (hplain : (backTo cpos (starEach es X.env)).any (·.1) = false := by rfl) (hk : X.K = K := by rfl) :
    PD K Z X (.Call (.Attribute (.Name x p1) name apos) (e :: es) [] cpos) (tBM K "list" r (tVar i) ta) (dLMO i lm da) := by
  subst hk
  exact ⟨pe_bm PySem.F.plainAttrs_list slot hty hm (pe_var hN hv hd hcd) ha.p hbase hfew hline hst hplain, simLMO hs ha.s⟩
theorem d_lmO0 {name : Str} {id : String} {x : Str} {p1 apos cpos : Pos} {r : V → List V → Hp → VK → Prop} {lm : LM} (i : Nat) (slot : Slot "list" name id) (hty : typeOf (.builtin id) = pure (.type "method_descriptor")) (hm : MtR X id r) (hs : SimLM K r lm) (hN : X.N[i]? = some x := by rfl) (hv : Vis X.env.scope x := by first | exact Or.inl rfl | exact Or.inr (Or.inl rfl) | exact Or.inr (Or.inr rfl)) (hd : (x == ("__debug__" : Str)) = false := by decide) (hcd : (x == ("__classdict__" : Str)) = false := by decide) (hbase : attributeBase (.Name x p1) name X.env (eval (.Name x p1) X.env) = eval (.Name x p1) X.env := by rfl)
    (hline : (apos.endLine == cpos.line) = true := by rfl) (hk : X.K = K := by rfl) :
    PD K Z X (.Call (.Attribute (.Name x p1) name apos) [] [] cpos) (tBM0 K "list" r (tVar i)) (dLMO i lm dNil) := by
  subst hk
  exact ⟨pe_bm0 PySem.F.plainAttrs_list slot hty hm (pe_var hN hv hd hcd) hbase hline, bm0_sim (simLMO hs (a_nil (X := X)).s)⟩
theorem d_lmM {name : Str} {id : String} {o e : Expr} {es : List Expr} {apos cpos : Pos} {r : V → List V → Hp → VK → Prop} {lm : LM} {to : TE} {do_ : DE} {ta : TA} {da : DA} (slot : Slot "list" name id) (hty : typeOf (.builtin id) = pure (.type "method_descriptor")) (hm : MtR X id r) (hs : SimLM K r lm) (ho : PD K Z X o to do_) (ha : PDA K Z X (e :: es) ta da) (hbase : attributeBase o name X.env (eval o X.env) = eval o X.env := by rfl)
    (hfew : ((backTo cpos (starEach (e :: es) X.env)).all (fun x => !x.1) && (backToKw cpos (keywordEach [] X.env)).all (fun x => x.1.isSome) && decide ((e :: es).length + ([] : List Keyword).length + (if ([] : List Keyword).isEmpty then 0 else 1) < 30)) = true := by rfl)
    (hline : (apos.endLine == cpos.line) = true := by rfl) (hst : starEach (e :: es) X.env = (false, eval e X.env) :: starEach es X.env := by rfl) (hplain : (backTo cpos (starEach es X.env)).any (·.1) = false := by rfl) (hk : X.K = K := by rfl) :
    PD K Z X (.Call (.Attribute o name apos) (e :: es) [] cpos) (tBM K "list" r to ta) (dLMM do_ lm da) := by
  subst hk
  exact ⟨pe_bm PySem.F.plainAttrs_list slot hty hm ho.p ha.p hbase hfew hline hst hplain, simLMM hs ho.s ha.s⟩
theorem d_lmM0 {name : Str} {id : String} {o : Expr} {apos cpos : Pos} {r : V → List V → Hp → VK → Prop} {lm : LM} {to : TE} {do_ : DE} (slot : Slot "list" name id) (hty : typeOf (.builtin id) = pure (.type "method_descriptor")) (hm : MtR X id r) (hs : SimLM K r lm) (ho : PD K Z X o to do_) (hbase : attributeBase o name X.env (eval o X.env) = eval o X.env := by rfl) (hline : (apos.endLine == cpos.line) = true := by rfl) (hk : X.K = K := by rfl) :
    PD K Z X (.Call (.Attribute o name apos) [] [] cpos) (tBM0 K "list" r to) (dLMM do_ lm dNil) := by
  subst hk
  exact ⟨pe_bm0 PySem.F.plainAttrs_list slot hty hm ho.p hbase hline, bm0_sim (simLMM hs ho.s (a_nil (X := X)).s)⟩
theorem RepL.eraseIdx {S : Hp} : ∀ {ds : List D} {vs : List V} (i : Nat), RepL K S ds vs → RepL K S (ds.eraseIdx i) (vs.eraseIdx i)
  | [], _, i, h => by have h : _ = _ := h; rw [h]; simp [RepL]
  | d :: ds, _, 0, h => by
    obtain ⟨v, r, rfl, h1, h2⟩ := h
    exact h2
  | d :: ds, _, i + 1, h => by
    obtain ⟨v, r, rfl, h1, h2⟩ := h
    exact ⟨v, _, rfl, h1, RepL.eraseIdx i h2⟩
def lmPopAt : LM := fun ds l μ R => ∃ i k y, ds = [.int i] ∧ (-(2 ^ 63) ≤ i ∧ i < 2 ^ 63) ∧ seqIndex? i l.length = some k ∧ l[k]? = some y ∧ R y (l.eraseIdx k)
theorem sm_popAt : SimLM K rPopAt lmPopAt := fun S μ H p vs l xs ds Q R r hp hl hx k q => by
  obtain ⟨i, j, y, rfl, hb, hi, hy, q⟩ := q
  obtain ⟨v, rfl, hv⟩ := RepL.one' hx
  have hv : v = .int i := hv
  subst hv
  obtain ⟨u, e, hu⟩ := RepL.get hl hy
  exact ⟨p, vs, i, j, u, rfl, rfl, hp, hb.1, hb.2, by rw [RepL.length hl]; exact hi, e, k u _ y _ hu (RepL.eraseIdx j hl) q⟩
theorem RepL.dropLast {S : Hp} {ds : List D} {vs : List V} (h : RepL K S ds vs) : RepL K S ds.dropLast vs.dropLast := by
  rw [List.dropLast_eq_take, List.dropLast_eq_take, RepL.length h]
  exact RepL.take _ h
def lmPop : LM := fun ds l μ R => ∃ y, ds = [] ∧ l[l.length - 1]? = some y ∧ R y l.dropLast
theorem sm_pop : SimLM K rPop lmPop := fun S μ H p vs l xs ds Q R r hp hl hx k q => by
  obtain ⟨y, rfl, hy, q⟩ := q
  have hx : xs = [] := hx
  subst hx
  obtain ⟨u, e, hu⟩ := RepL.get hl hy
  exact ⟨p, vs, u, rfl, rfl, hp, by rw [RepL.length hl]; exact e, k u _ y _ hu (RepL.dropLast hl) q⟩
def lmClear : LM := fun ds l μ R => ds = [] ∧ R .non []
theorem sm_clear : SimLM K rClear lmClear := fun S μ H p vs l xs ds Q R r hp hl hx k q => by
  obtain ⟨rfl, q⟩ := q
  exact ⟨p, vs, rfl, hx, hp, k .non [] .non [] rfl rfl q⟩
def lmReverse : LM := fun ds l μ R => ds = [] ∧ R .non l.reverse
theorem sm_reverse : SimLM K rReverse lmReverse := fun S μ H p vs l xs ds Q R r hp hl hx k q => by
  obtain ⟨rfl, q⟩ := q
  exact ⟨p, vs, rfl, hx, hp, k .non _ .non _ rfl (RepL.reverse hl) q⟩
def rInsert : V → List V → Hp → VK → Prop := fun x vs H Q => ∃ (l : Addr) (xs : List V) (i : Int) (y : V), x = .ref l ∧ vs = [.int i, y] ∧ H l = some (.lst xs) ∧ xs.length < sizeLine ∧ 0 ≤ i ∧ i < 2 ^ 63 ∧ Q .non (upd H l (.lst (xs.take i.toNat ++ [y] ++ xs.drop i.toNat)))
def lmInsert : LM := fun ds l μ R => ∃ i y, ds = [.int i, y] ∧ l.length < sizeLine ∧ (0 ≤ i ∧ i < 2 ^ 63) ∧ R .non (l.take i.toNat ++ [y] ++ l.drop i.toNat)
theorem sm_insert : SimLM K rInsert lmInsert := fun S μ H p vs l xs ds Q R r hp hl hx k q => by
  obtain ⟨i, y, rfl, hz, hb, q⟩ := q
  obtain ⟨v, w, rfl, h1, h2⟩ := RepL.two' hx
  have h1 : v = .int i := h1
  subst h1
  exact ⟨p, vs, i, w, rfl, rfl, hp, by rw [RepL.length hl]; exact hz, hb.1, hb.2, k .non _ .non _ rfl (RepL.append (RepL.append (RepL.take _ hl) (RepL.one h2)) (RepL.drop _ hl)) q⟩
theorem mt_ins : MtR X "list.insert" rInsert := mt_insert
def isScr : D → Bool
  | .scr _ => true
  | _ => false
def lmExtend : LM := fun ds l μ R => ∃ x m, ds = [x] ∧ isScr x = false ∧ lstOf μ x = some m ∧ l.length + m.length ≤ sizeLine ∧ R .non (l ++ m)
theorem sm_extend : SimLM K rExtend lmExtend := fun S μ H p vs l xs ds Q R r hp hl hx k q => by
  obtain ⟨x, m, rfl, hs, hm, hz, q⟩ := q
  obtain ⟨v, rfl, hv⟩ := RepL.one' hx
  obtain ⟨b, zs, rfl, hb, h2⟩ : ∃ b zs, v = .ref b ∧ H b = some (.lst zs) ∧ RepL K S m zs := by
    cases x with
    | lst m' =>
      cases (show some _ = some _ from hm)
      obtain ⟨a, ws, rfl, h1, h2⟩ := hv
      exact ⟨a, ws, rfl, exr_lst r.ex h1, h2⟩
    | ref a =>
      unfold lstOf at hm
      dsimp only at hm
      split at hm
      · cases hm
        rename_i hma
        have hv : v = .ref a := hv
        obtain ⟨_, o, h1, ws, rfl, h2⟩ := r.mu a _ hma
        exact ⟨a, ws, hv, h1, h2⟩
      · cases hm
    | scr _ => cases hs
    | _ => cases (show none = some _ from hm)
  exact ⟨p, b, vs, zs, rfl, rfl, hp, hb, by rw [RepL.length hl, RepL.length h2]; exact hz, k .non _ .non _ rfl (RepL.append hl h2) q⟩
/-! ### list(x), then changed -/
def fList (de : DE) : DF := fun δ μ Q => de δ μ fun x δ1 μ1 => ∃ l, seqOf μ1 x = some l ∧ Q (.lst l) δ1 μ1
theorem f_list {x : Str} {p pos : Pos} {e : Expr} {te : TE} {de : DE} (hg : Gl X x) (hm : X.mg x = none) (hv : bootBuiltins x = some (.type "list")) (he : PD K Z X e te de)
    (hn : x ≠ "__name__" := by decide) (hdb : (x == ("__debug__" : Str)) = false := by decide) (hs : starEach [e] X.env = (false, eval e X.env) :: starEach [] X.env := by rfl) (hpl : (backTo pos (starEach [] X.env)).any (·.1) = false := by rfl) (hk : X.K = K := by rfl) : PDF K Z X (.Call (.Name x p) [e] [] pos) (tCB (rListA K) (tCons te tNil)) (fList de) := by
  subst hk
  refine ⟨pe_callTy call_list_of hg hm hv (pa_cons he.p pa_nil hs) hn hdb hs hpl, fun B hB S μ H σ δ Q QF rl k q => ?_⟩
  refine he.s B hB S μ H σ δ _ _ rl (fun S1 μ1 H1 δ1 v d e1 r1 hv q1 => ?_) q
  obtain ⟨l, e, q1⟩ := q1
  obtain ⟨a, vs, rfl, hs, h2⟩ := seq_is r1.r3 hv e
  refine ⟨a, vs, rfl, hs, fun p hp => ?_⟩
  obtain ⟨r2, f⟩ := r1.fresh (o := .lst vs) hp
  exact k S1 μ1 _ δ1 p _ (.lst l) e1 r2 f ⟨vs, rfl, h2⟩ q1
def rdListM : DC := fun xs μ Q => ∃ x l, xs = [x] ∧ seqOf μ x = some l ∧ ∀ p, μ p = none → Q (.ref p) (updM μ p (.lst l))
theorem c_listM (hk : X.K = K := by rfl) : PDC K X (.type "list") (rListA K) rdListM := by
  subst hk
  exact ⟨call_list_of, fun S μ H xs ds Q QD r hx k q => by
  obtain ⟨x, l, rfl, e, q⟩ := q
  obtain ⟨v, rfl, hv⟩ := RepL.one' hx
  obtain ⟨a, vs, rfl, hs, h2⟩ := seq_is r hv e
  refine ⟨a, vs, rfl, hs, fun p hp => ?_⟩
  obtain ⟨r4, g⟩ := r.cell (o := .lst vs) (m := .lst l) hp ⟨vs, rfl, h2⟩
  exact k _ _ _ _ (.ref p) g r4 rfl (q p (r.free hp).2)⟩
/-- a, b = x, y: both lists that are then changed -/
def dParFF (i j : Nat) (df dg : DF) : DS := fun DD δ μ => df δ μ fun m δ1 μ1 => dg δ1 μ1 fun n δ2 μ2 => DD.nx ((δ2.set i (.own m)).set j (.own n)) μ2
theorem s_parFF {i j : Nat} {x y : Str} {a b : Expr} {ta tb : TE} {df dg : DF} {px py pt pos : Pos} {kt k2 pt2} (hN : X.N.Nodup) (ha : PDF K Z X a ta df) (hb : PDF K Z X b tb dg) (hij : i ≠ j := by decide) (hi : X.N[i]? = some x := by rfl) (hj : X.N[j]? = some y := by rfl) (hx : X.env.scope.names.lookup x = some .local := by rfl) (hy : X.env.scope.names.lookup y = some .local := by rfl)
    (hw : swappedStores [.Tuple [.Name x px, .Name y py] kt pt] (.Tuple [a, b] k2 pt2) X.env = pure (some [x, y]) := by rfl) (hs : swapsWithSole [.Tuple [.Name x px, .Name y py] kt pt] (.Tuple [a, b] k2 pt2) pos.line X.env = pure false := by rfl) (hc : X.calm = true := by rfl)
    (h1 : starEach [a, b] X.env = (false, eval a X.env) :: starEach [b] X.env := by rfl) (h2 : starEach [b] X.env = (false, eval b X.env) :: starEach [] X.env := by rfl) :
    PDS K Z X (.Assign [.Tuple [.Name x px, .Name y py] kt pt] (.Tuple [a, b] k2 pt2) pos) (tPar i j (tCons ta (tCons tb tNil))) (dParFF i j df dg) :=
  ⟨ps_par hc hN hi hj hij hx hy (pa_cons ha.p (pa_cons hb.p pa_nil h2) h1) hw hs, fun B hB S μ H σ δ E DD rl lf q => by
    refine ha.s B hB S μ H σ δ _ _ rl (fun S1 μ1 H1 δ1 p o m e1 r1 f hm q1 => ?_) q
    refine hb.s { B with F := updF B.F p m } (hB.aside f.f) S1 μ1 H1 σ δ1 _ _ (r1.aside f hm) (fun S2 μ2 H2 δ2 p2 o2 n e2 r2 f2 hn q2 => ?_) q1
    have hne : p2 ≠ p := fun z => by
      have h := f2.f
      rw [z] at h
      have h : updF B.F p m p = none := h
      unfold updF at h
      rw [if_pos rfl] at h
      cases h
    obtain ⟨r3, o', f3, hm3⟩ := Rel.again f.f r2
    refine ⟨.ref p, .ref p2, rfl, lf.nx S2 μ2 H2 _ _ ((r3.ownF f3 hm3).ownF (o := o2) ⟨f2.b, f2.s, f2.m, f2.h, fun k n' e z => ?_, ?_⟩ hn) q2⟩
    · by_cases hk : i = k
      · subst hk
        by_cases hl : i < σ.length
        · rw [List.getElem?_set_self hl] at z
          cases z
          exact hne rfl
        · rw [List.getElem?_eq_none (by rw [List.length_set]; omega)] at z
          cases z
      · rw [List.getElem?_set_ne hk] at e z
        exact f2.d k n' e z
    · have h := f2.f
      have h : updF B.F p m p2 = none := h
      unfold updF at h
      rw [if_neg hne] at h
      exact h⟩
/-! ### a slot's own list is compared -/
def dEqO (neg : Bool) (i : Nat) (db : DE) : DE := fun δ μ Q => (∃ l, δ[i]? = some (.own (.lst l))) ∧ db δ μ fun y δ1 μ1 => ∃ l, δ1[i]? = some (.own (.lst l)) ∧ shD (.lst l) = true ∧ shD (drf μ1 y) = true ∧ Q (.bl (if neg then !eqD (.lst l) (drf μ1 y) else eqD (.lst l) (drf μ1 y))) δ1 μ1
theorem own_dp {B : Bs} {S : Hp} {μ : Mem} {H : Hp} {σ : L2.St} {δ : Ss} {i : Nat} {l : List D} {d : PyData} (r : Rel K B S μ H σ δ) (e : δ[i]? = some (.own (.lst l))) (h : pd (.lst l) = some d) : ∃ a, σ[i]? = some (some (.ref a)) ∧ Dp K H (.ref a) d := by
  obtain ⟨p, o, e1, h1, vs, rfl, h2⟩ := r.ownAt e
  refine ⟨p, e1, ?_⟩
  have h : (pds l).map PyData.list = some d := h
  cases e1 : pds l with
  | none => rw [e1] at h; cases h
  | some ps => rw [e1] at h; cases h; exact .lst (SqL.of h1) (dps_of r.r3.ex l vs ps h2 e1)
theorem simEqO {i : Nat} {tb : TE} {db : DE} (h : SimE K Z tb db) : SimE K Z (tOp (rEqA K) (tVar i) tb) (dEqO false i db) := fun B hB S μ H σ δ Q QD rl k q => by
  obtain ⟨⟨l0, e0⟩, q⟩ := q
  obtain ⟨p, o, e1, _⟩ := rl.ownAt e0
  refine ⟨.ref p, e1, ?_⟩
  refine h B hB S μ H σ δ _ _ rl (fun S1 μ1 H1 δ1 x dx e2 r1 hx q1 => ?_) q
  obtain ⟨l, e, s1, s2, q1⟩ := q1
  obtain ⟨d1, z1, t1⟩ := shD_some s1
  obtain ⟨d2, z2, t2⟩ := shD_some s2
  obtain ⟨a, ea, h3⟩ := own_dp r1 e z1
  rw [e1] at ea
  cases ea
  exact .inr ⟨d1, d2, h3, dp_drf r1.r3 hx z2, t1, t2, k S1 μ1 H1 δ1 _ (.bl (eqD (.lst l) (drf μ1 dx))) e2 r1 (by unfold eqD; rw [z1, z2]; rfl) q1⟩
theorem simNeO {i : Nat} {tb : TE} {db : DE} (h : SimE K Z tb db) : SimE K Z (tOp (rNeA K) (tVar i) tb) (dEqO true i db) := fun B hB S μ H σ δ Q QD rl k q => by
  obtain ⟨⟨l0, e0⟩, q⟩ := q
  obtain ⟨p, o, e1, _⟩ := rl.ownAt e0
  refine ⟨.ref p, e1, ?_⟩
  refine h B hB S μ H σ δ _ _ rl (fun S1 μ1 H1 δ1 x dx e2 r1 hx q1 => ?_) q
  obtain ⟨l, e, s1, s2, q1⟩ := q1
  obtain ⟨d1, z1, t1⟩ := shD_some s1
  obtain ⟨d2, z2, t2⟩ := shD_some s2
  obtain ⟨a, ea, h3⟩ := own_dp r1 e z1
  rw [e1] at ea
  cases ea
  exact .inr ⟨d1, d2, h3, dp_drf r1.r3 hx z2, t1, t2, k S1 μ1 H1 δ1 _ (.bl (!eqD (.lst l) (drf μ1 dx))) e2 r1 (by unfold eqD; rw [z1, z2]; rfl) q1⟩
theorem d_eqO {b : Expr} {x : Str} {p pos : Pos} {tb : TE} {db : DE} (i : Nat) (hu : X.A.units + 64 < cLine) (hb : PD K Z X b tb db) (hN : X.N[i]? = some x := by rfl) (hv : Vis X.env.scope x := by first | exact Or.inl rfl | exact Or.inr (Or.inl rfl) | exact Or.inr (Or.inr rfl)) (hd : (x == ("__debug__" : Str)) = false := by decide) (hcd : (x == ("__classdict__" : Str)) = false := by decide) (hm : behindInMarks .Eq b = false := by rfl) (hk : X.K = K := by rfl) :
    PD K Z X (.Compare (.Name x p) [.Eq] [b] pos) (tOp (rEqA K) (tVar i) tb) (dEqO false i db) := by
  subst hk
  exact ⟨pe_cmpR (op_eq.or (op_eqD hu)) (pe_var hN hv hd hcd) hb.p hm, simEqO hb.s⟩
theorem t_eqO {b : Expr} {x : Str} {p pos : Pos} {tb : TE} {db : DE} (i : Nat) (hu : X.A.units + 64 < cLine) (hb : PD K Z X b tb db) (hN : X.N[i]? = some x := by rfl) (hv : Vis X.env.scope x := by first | exact Or.inl rfl | exact Or.inr (Or.inl rfl) | exact Or.inr (Or.inr rfl)) (hd : (x == ("__debug__" : Str)) = false := by decide) (hcd : (x == ("__classdict__" : Str)) = false := by decide) (hm : behindInMarks .Eq b = false := by rfl) (hk : X.K = K := by rfl) :
    PDT K Z X (.Compare (.Name x p) [.Eq] [b] pos) (tTest (tOp (rEqA K) (tVar i) tb)) (dTest (dEqO false i db)) := by
  subst hk
  exact ⟨pt_cmpR (op_eq.or (op_eqD hu)) (pe_var hN hv hd hcd) hb.p hm, simTest (simEqO hb.s)⟩
theorem d_neO {b : Expr} {x : Str} {p pos : Pos} {tb : TE} {db : DE} (i : Nat) (hu : X.A.units + 64 < cLine) (hb : PD K Z X b tb db) (hN : X.N[i]? = some x := by rfl) (hv : Vis X.env.scope x := by first | exact Or.inl rfl | exact Or.inr (Or.inl rfl) | exact Or.inr (Or.inr rfl)) (hd : (x == ("__debug__" : Str)) = false := by decide) (hcd : (x == ("__classdict__" : Str)) = false := by decide) (hm : behindInMarks .NotEq b = false := by rfl) (hk : X.K = K := by rfl) :
    PD K Z X (.Compare (.Name x p) [.NotEq] [b] pos) (tOp (rNeA K) (tVar i) tb) (dEqO true i db) := by
  subst hk
  exact ⟨pe_cmpR (op_ne.or (op_neD hu)) (pe_var hN hv hd hcd) hb.p hm, simNeO hb.s⟩
theorem t_neO {b : Expr} {x : Str} {p pos : Pos} {tb : TE} {db : DE} (i : Nat) (hu : X.A.units + 64 < cLine) (hb : PD K Z X b tb db) (hN : X.N[i]? = some x := by rfl) (hv : Vis X.env.scope x := by first | exact Or.inl rfl | exact Or.inr (Or.inl rfl) | exact Or.inr (Or.inr rfl)) (hd : (x == ("__debug__" : Str)) = false := by decide) (hcd : (x == ("__classdict__" : Str)) = false := by decide) (hm : behindInMarks .NotEq b = false := by rfl) (hk : X.K = K := by rfl) :
    PDT K Z X (.Compare (.Name x p) [.NotEq] [b] pos) (tTest (tOp (rNeA K) (tVar i) tb)) (dTest (dEqO true i db)) := by
  subst hk
  exact ⟨pt_cmpR (op_ne.or (op_neD hu)) (pe_var hN hv hd hcd) hb.p hm, simTest (simNeO hb.s)⟩
/-! ### x in l of data of any depth -/
def anyD (x : D) (l : List D) : Bool := l.any fun z => eqD z x
theorem anyD_pds : ∀ {l : List D} {ps : List PyData} {x : D} {d : PyData}, pds l = some ps → pd x = some d → (ps.any fun z => PyData.eqv z d) = anyD x l
  | [], ps, x, d, h, hx => by cases (show some [] = some ps from h); rfl
  | y :: l, ps, x, d, h, hx => by
    have h : (pd y).bind (fun z => (pds l).map (z :: ·)) = some ps := h
    cases e1 : pd y with
    | none => rw [e1] at h; cases h
    | some a =>
      cases e2 : pds l with
      | none => rw [e1, e2] at h; cases h
      | some b =>
        rw [e1, e2] at h
        cases (show some (a :: b) = some ps from h)
        unfold anyD
        rw [List.any_cons, List.any_cons, anyD_pds e2 hx]
        have : PyData.eqv a d = eqD y x := by unfold eqD; rw [e1, hx]
        rw [this]
        rfl
def rdInD (neg : Bool) : DR := fun x y μ Q => ∃ l, drf μ y = .lst l ∧ shD x = true ∧ shD (.lst l) = true ∧ Q (.bl (if neg then !anyD x l else anyD x l)) μ
theorem inD_dp {S : Hp} {μ : Mem} {H : Hp} {y : V} {dy : D} {l : List D} (r : R3 K S μ H) (hy : Rep K S dy y) (e : drf μ dy = .lst l) (h : shD (.lst l) = true) : ∃ ps, pds l = some ps ∧ SeqAt.shaped (.list ps) = true ∧ Dp K H y (.list ps) := by
  obtain ⟨p, e1, s1⟩ := shD_some h
  have h0 : (pds l).map PyData.list = some p := e1
  cases e2 : pds l with
  | none => rw [e2] at h0; cases h0
  | some ps =>
    rw [e2] at h0
    cases h0
    exact ⟨ps, rfl, s1, dp_drf r hy (by rw [e]; exact e1)⟩
theorem o_inD (hu : X.A.units + 65 < cLine) (hk : X.K = K := by rfl) : PDOp K X (compareOp .In) (rInD K) (rdInD false) := by
  subst hk
  exact ⟨op_inD hu, fun S μ H x y dx dy Q QD r hx hy k q => by
    obtain ⟨l, e, h1, h2, q⟩ := q
    obtain ⟨d, e1, s1⟩ := shD_some h1
    obtain ⟨ps, e2, s2, h3⟩ := inD_dp r hy e h2
    exact ⟨d, ps, dp_of r.ex _ _ _ hx e1, h3, s1, s2, k S μ H _ (.bl (anyD dx l)) Grow.refl r (by rw [anyD_pds e2 e1]; rfl) q⟩⟩
theorem o_notInD (hu : X.A.units + 65 < cLine) (hk : X.K = K := by rfl) : PDOp K X (compareOp .NotIn) (rNotInD K) (rdInD true) := by
  subst hk
  exact ⟨op_notInD hu, fun S μ H x y dx dy Q QD r hx hy k q => by
    obtain ⟨l, e, h1, h2, q⟩ := q
    obtain ⟨d, e1, s1⟩ := shD_some h1
    obtain ⟨ps, e2, s2, h3⟩ := inD_dp r hy e h2
    exact ⟨d, ps, dp_of r.ex _ _ _ hx e1, h3, s1, s2, k S μ H _ (.bl (!anyD dx l)) Grow.refl r (by rw [anyD_pds e2 e1]; rfl) q⟩⟩
theorem rm65 {k : Nat} {A : Around} (r : Room k A) : A.units + 65 < cLine := by have := r.un; omega
end Dl

namespace Dl
open PySem PySem.Spec PyProof.Rows L2
variable {X : Cx} {K : PySem.W.Frag} {Z : Bs}
/-! ### a text so often -/
def rMulS : R2 := fun x y H Q => ∃ z n, x = .str z ∧ y = .int n ∧ 0 ≤ n ∧ n ≤ 1000 ∧ z.length ≤ 1000 ∧ Q (.str (Txt.mul z n)) H
theorem mul_le {a b c d : Nat} (h1 : a ≤ c) (h2 : b ≤ d) : a * b ≤ c * d := Nat.mul_le_mul h1 h2
theorem op_mulS : OpR X (binaryOp .Mult) rMulS := by
  intro pins s σ H x y v u Q I rx ry h
  obtain ⟨z, n, rfl, rfl, h0, h1, h2, q⟩ := h
  obtain ⟨t, rfl⟩ := rx
  obtain ⟨t', rfl⟩ := ry
  refine SB.mul ⟨by simp; omega, fun a _ => ?_, fun _ _ => ?_⟩ fun t2 k => ⟨.str _, H, I.tok k, ⟨_, rfl⟩, q⟩
  · have h5 : (z.length : Int) * n ≤ 1000 * 1000 := Int.mul_le_mul (by omega) h1 h0 (by omega)
    have h4 : (z.length : Int) ≤ (2 ^ 63 - 1) / n := Int.le_ediv_of_mul_le (by omega) (by omega)
    omega
  · have h3 : z.length * n.toNat ≤ 1000 * 1000 := mul_le h2 (by omega)
    show decide (_ > sizeLine) = false
    exact decide_eq_false (by have := sizeLine_eq; omega)
def rdMulS : DR := fun x y μ Q => ∃ z n, x = .str z ∧ y = .int n ∧ 0 ≤ n ∧ n ≤ 1000 ∧ z.length ≤ 1000 ∧ Q (.str (Txt.mul z n)) μ
theorem o_mulS : PDOp K X (binaryOp .Mult) rMulS rdMulS := ⟨op_mulS, fun S μ H x y dx dy Q QD r hx hy k q => by
  obtain ⟨z, n, rfl, rfl, h0, h1, h2, q⟩ := q
  exact ⟨z, n, hx, hy, h0, h1, h2, k S μ H _ (.str (Txt.mul z n)) Grow.refl r rfl q⟩⟩
/-! ### isinstance(e, ValueError) -/
structure Ves (K : PySem.W.Frag) (EX : List Str) : Prop where
  e : ∀ c ∈ EX, ExcC K (He.ga K c)
  k : ∀ c ∈ EX, PySem.W.kitOne K (.ref (He.ga K c)) (.type "ValueError") = some true
theorem vesB_ok {EX : List Str} (h : vesB EX K = true) : Ves K EX := by
  obtain ⟨a, b⟩ := He.ba h
  exact ⟨fun x hx => excB_ok (List.all_eq_true.mp a x hx), fun x hx => of_decide_eq_true (List.all_eq_true.mp b x hx)⟩
def dIsV (EX : List Str) (de : DE) : DE := fun δ μ Q => de δ μ fun x δ1 μ1 => ∃ c, x = .exc c [] false ∧ EX.contains c = true ∧ Q (.bl true) δ1 μ1
theorem d_isV {EX : List Str} {e : Expr} {te : TE} {de : DE} {p p2 pos : Pos} (A : Ves K EX) (hmV : X.mg "ValueError" = none) (hm : X.mg "isinstance" = none) (he : PD K Z X e te de) (hg : Gl X "isinstance" := by rfl) (hgC : Gl X "ValueError" := by rfl) (hk : X.K = K := by rfl)
    (h1 : starEach [e, .Name "ValueError" p2] X.env = (false, eval e X.env) :: starEach [.Name "ValueError" p2] X.env := by rfl) (h2 : starEach [.Name "ValueError" p2] X.env = (false, eval (.Name "ValueError" p2) X.env) :: starEach [] X.env := by rfl) (hpl : (backTo pos (starEach [.Name "ValueError" p2] X.env)).any (·.1) = false := by rfl) :
    PD K Z X (.Call (.Name "isinstance" p) [e, .Name "ValueError" p2] [] pos) (tCB (rIsU K) (tCons te (tCons (tC (.ty "ValueError")) tNil))) (dIsV EX de) := by
  subst hk
  refine ⟨pe_callB call_isU hg hm (by decide +kernel) (pa_cons he.p (pa_cons (pe_bltn hgC hmV (by decide +kernel) rfl (by decide) (by decide)) pa_nil h2) h1) (by decide) (by decide) h1 hpl, fun B hB S μ H σ δ Q QD rl k q => ?_⟩
  refine he.s B hB S μ H σ δ _ _ rl (fun S1 μ1 H1 δ1 x dx e1 r1 hx q1 => ?_) q
  obtain ⟨c, rfl, hc, q1⟩ := q1
  obtain ⟨a, rfl, g1, _⟩ := hx
  have g2 : H1 a = some (ExO a (.ref (He.ga X.K c)) none) := by
    rcases r1.r3.ex.at g1 trivial with z | ⟨z, _⟩
    · exact z
    · cases z
  exact .inr ⟨a, He.ga X.K c, _, .type "ValueError", true, rfl, .ty _, g2, A.e c (mem_of_contains hc), A.k c (mem_of_contains hc), k S1 μ1 H1 δ1 _ (.bl true) e1 r1 rfl q1⟩
/-! ### x or y, x a list -/
def dOrL (da db : DE) : DE := fun δ μ Q => da δ μ fun x δ1 μ1 => ∃ l, seqOf μ1 x = some l ∧ if (!l.isEmpty) = true then Q x δ1 μ1 else db δ1 μ1 Q
theorem simOrL {t u : TE} {dt du : DE} (h1 : SimE K Z t dt) (h2 : SimE K Z u du) : SimE K Z (tOrT K t u) (dOrL dt du) := fun B hB S μ H σ δ Q QD rl k q => by
  refine h1 B hB S μ H σ δ _ _ rl (fun S1 μ1 H1 δ1 x dx e1 r1 hx q1 => ?_) q
  obtain ⟨l, e, q1⟩ := q1
  obtain ⟨a, vs, rfl, hs, hl⟩ := seq_is r1.r3 hx e
  have hv : (!vs.isEmpty) = !l.isEmpty := by
    have := RepL.length hl
    cases vs <;> cases l <;> simp_all
  refine ⟨!vs.isEmpty, ?_, ?_⟩
  · rcases hs with hs | hs
    · exact .inl ⟨vs, hs, rfl⟩
    · exact .inr (.inl ⟨vs, hs, rfl⟩)
  · rw [hv]
    split at q1
    · rename_i h
      rw [if_pos h]
      exact k S1 μ1 H1 δ1 _ dx e1 r1 hx q1
    · rename_i h
      rw [if_neg h]
      exact h2 B hB S1 μ1 H1 σ δ1 _ _ r1 (fun S2 μ2 H2 δ2 b d e2 r2 hd q2 => k S2 μ2 H2 δ2 b d (e1.trans e2) r2 hd q2) q1
theorem d_orL {a b : Expr} {rest : List Expr} {t u : TE} {d du : DE} {pos} (h : PD K Z X a t d) (h2 : PD K Z X (.BoolOp .Or (b :: rest) pos) u du) (hk : X.K = K := by rfl) : PD K Z X (.BoolOp .Or (a :: b :: rest) pos) (tOrT K t u) (dOrL d du) := by
  subst hk
  exact ⟨pe_orT h.p h2.p, simOrL h.s h2.s⟩
end Dl

namespace Dl
open PySem PySem.Spec PyProof.Rows L2
variable {X : Cx} {K : PySem.W.Frag} {Z : Bs}
/-! ### divmod -/
def rDivMod : List V → Hp → VK → Prop := fun xs H Q => ∃ i j, xs = [.int i, .int j] ∧ CDiv i j ∧ ∀ p, H p = none → Q (.ref p) (upd H p (.tup [.int (i / j), .int (i % j)]))
def rdDivMod : DC := fun xs μ Q => ∃ i j, xs = [.int i, .int j] ∧ (0 < j ∧ j < 1073741824) ∧ Q (.tup [.int (i / j), .int (i % j)]) μ
theorem c_divmod : PDC K X (.builtin "divmod") rDivMod rdDivMod := ⟨call_divmod, fun S μ H xs ds Q QD r hx k q => by
  obtain ⟨i, j, rfl, hc, q⟩ := q
  obtain ⟨v, w, rfl, hv, hw⟩ : ∃ v w, xs = [v, w] ∧ Rep K S (.int i) v ∧ Rep K S (.int j) w := by
    obtain ⟨v, r1, rfl, hv, h1⟩ := hx
    obtain ⟨w, r2, rfl, hw, h2⟩ := h1
    cases h2
    exact ⟨v, w, rfl, hv, hw⟩
  have hv : v = .int i := hv
  have hw : w = .int j := hw
  subst hv hw
  refine ⟨i, j, rfl, hc, fun p hp => ?_⟩
  obtain ⟨r4, g⟩ := r.alloc (o := .tup [.int (i / j), .int (i % j)]) hp
  exact k _ μ _ _ (.tup [.int (i / j), .int (i % j)]) g r4 ⟨p, _, rfl, upd_same, _, _, rfl, rfl, RepL.one rfl⟩ q⟩
/-! ### sum of ints, a list or a tuple -/
section
variable {prog : Program} {w : World} {A : Around} {E : Value → Shared → Prop} {s : Shared} {l : Addr} {its : List Value} {ns : List Int} {Q : Value → Shared → Prop}
theorem sum_rawT (hh : A.handled = none) (hl : s.heap.IsTuple l its.toArray) (hi : IntsAre its ns)
    (h : ∀ h' tk t', (∀ b o, s.heap.get? b = some o → h'.get? b = some o) → Q (.int ns.sum t') { s with heap := h', toks := tk }) : wpAny (model prog w) A (call (.builtin "sum") [.ref l]) Q E s := by
  obtain ⟨xs, e⟩ := hi.allInts.items
  have hn : numsOf (intItems xs).toList = ns := by rw [← e]; exact hi.numsOf
  rw [nums_intItems] at hn
  rw [e] at hl
  have hlt : l < s.heap.objs.size := by obtain ⟨_, e, _⟩ := hl; exact Heap.lt_size e
  refine call_sum_walkG (wpAny_pyIter_tuple hl ⟨_, _, _, _, _, _, numAt xs, rfl, Walks.tuple (A := A.in1) hh _ l (Nat.ne_of_lt hlt) (intItems xs), ⟨⟨_, Heap.get?_push_size _ rfl, rfl, rfl⟩, hl.push _⟩, fun b hb => ?_, (fun _ _ => intItems_at), fun h' tk t' hk => ?_⟩)
  · show b < (s.heap.push _).objs.size
    rw [Heap.size_push]
    rcases List.mem_cons.mp hb with rfl | hb
    · exact Nat.lt_succ_self _
    · rcases List.mem_cons.mp hb with rfl | hb
      · exact Nat.lt_succ_of_lt hlt
      · cases hb
  · have := h h' tk t' fun b o e => hk b o (fun hb => absurd (Heap.lt_size e) ((List.mem_singleton.mp hb) ▸ Nat.lt_irrefl _)) (Heap.get?_push_of_some _ e)
    rw [preSum_eq, List.take_of_length_le (by simp [intItems]), hn]; exact this
end
def rSumA (K : PySem.W.Frag) : List V → Hp → VK → Prop := fun vs H Q => ∃ (a : Addr) (ns : List Int), vs = [V.ref a] ∧ (SqL K H a (ns.map V.int) ∨ SqT K H a (ns.map V.int)) ∧ Q (.int ns.sum) H
theorem call_sumA (hc : X.calm = true) : CallR X (.builtin "sum") (rSumA X.K) := by
  intro pins s σ H vs us Q I r h
  obtain ⟨a, ns, rfl, hs | hs, q⟩ := h
  · exact cr_sum hc pins s σ H _ us Q I r ⟨a, ns, rfl, hs, q⟩
  · obtain ⟨its, rv, hl, _⟩ := I.tuple hs
    rw [Vals.ref1 r]
    exact sum_rawT (I.ok.hd hc) (show s.heap.IsTuple a its.toArray from hl) rv.ints fun h' tk t' hk => ⟨.int _, H, I.kept hk, ⟨_, rfl⟩, q⟩
def rdSum : DC := fun xs μ Q => ∃ (d : D) (ns : List Int), xs = [d] ∧ seqOf μ d = some (ns.map .int) ∧ Q (.int ns.sum) μ
theorem c_sum (hc : X.calm = true) (hk : X.K = K := by rfl) : PDC K X (.builtin "sum") (rSumA K) rdSum := by
  subst hk
  exact ⟨call_sumA hc, fun S μ H xs ds Q QD r hx k q => by
    obtain ⟨d, ns, rfl, hl, q⟩ := q
    obtain ⟨v, rfl, hv⟩ := RepL.one' hx
    obtain ⟨a, vs, rfl, h1, h2⟩ := seq_is r hv hl
    rw [RepL.int h2] at h1
    exact ⟨a, ns, rfl, h1, k S μ H _ (.int ns.sum) Grow.refl r rfl q⟩⟩
/-! ### x[lo::-1] -/
/-- so many items stand up to the place -/
def revIx (n : Nat) : Option Int → Nat
  | none => n
  | some v => if v < 0 then (v + n + 1).toNat else min (v + 1).toNat n
theorem revIx_le (n : Nat) (lo : Option Int) : revIx n lo ≤ n := by
  cases lo with
  | none => exact Nat.le_refl _
  | some v =>
    show (if v < 0 then (v + n + 1).toNat else min (v + 1).toNat n) ≤ n
    split <;> omega
theorem adjust_rev (lo : Option Int) (n : Nat) : Builtin.Slice.sliceAdjust lo none (-1) (n : Int) = ((revIx n lo : Int) - 1, -1) := by
  have h1 : ((-1 : Int) < 0) := by omega
  unfold Builtin.Slice.sliceAdjust
  simp only [h1, if_true]
  refine Prod.ext ?_ rfl
  cases lo with
  | none => rfl
  | some v =>
    show _ = (((if v < 0 then (v + n + 1).toNat else min (v + 1).toNat n) : Nat) : Int) - 1
    dsimp only
    by_cases hv : v < 0
    · simp only [if_pos hv]; omega
    · simp only [if_neg hv]; omega
theorem places_rev (k : Nat) : Builtin.Slice.slicePlaces ((k : Int) - 1) (-1) (-1) = k := by
  unfold Builtin.Slice.slicePlaces
  have h1 : ¬ ((-1 : Int) > 0) := by omega
  simp only [h1, if_false, Int.neg_neg, Int.ediv_one]
  split <;> omega
theorem fm_all {α β : Type} {f : α → Option β} {g : α → β} : ∀ {l : List α}, (∀ m ∈ l, f m = some (g m)) → l.filterMap f = l.map g
  | [], _ => rfl
  | a :: l, h => by
    rw [List.filterMap_cons, h a (List.mem_cons_self), List.map_cons, fm_all fun m hm => h m (List.mem_cons_of_mem _ hm)]
theorem pick_rev (xs : Array Value) (k : Nat) (hk : k ≤ xs.size) : ((List.range k).filterMap fun (m : Nat) => xs[(((k : Int) - 1) + (m : Int) * (-1)).toNat]?).toArray = (xs.toList.take k).reverse.toArray := by
  congr 1
  apply List.ext_getElem?
  intro i
  have e : (List.range k).filterMap (fun (m : Nat) => xs[(((k : Int) - 1) + (m : Int) * (-1)).toNat]?) = (List.range k).map (fun m => xs.toList.getD (k - 1 - m) default) := by
    refine fm_all fun m hm => ?_
    have hm := List.mem_range.mp hm
    have e2 : (((k : Int) - 1) + (m : Int) * (-1)).toNat = k - 1 - m := by omega
    rw [e2]
    have hlt : k - 1 - m < xs.size := by omega
    simp [hlt]
  rw [e]
  by_cases hi : i < k
  · rw [List.getElem?_reverse (by rw [List.length_take, Array.length_toList]; omega)]
    rw [List.length_take, Array.length_toList, Nat.min_eq_left hk]
    have hlt : k - 1 - i < xs.size := by omega
    rw [List.getElem?_take_of_lt (by omega)]
    simp [hi, hlt]
  · rw [List.getElem?_eq_none (by simp; omega), List.getElem?_eq_none (by simp; omega)]
section
variable {prog : Program} {w : World} {A : Around} {E : Value → Shared → Prop} {s : Shared}
theorem sliceApplied_rev {sl : Addr} {vl vu vs : Value} {lo : Option Int} {n : Nat} {Q : Int × Int × Nat → Shared → Prop} (hs : s.heap.IsSliceOf sl vl vu vs) (pl : IsPart vl lo) (pu : IsPart vu none) (ps : IsPart vs (some (-1)))
    (h : Q ((revIx n lo : Int) - 1, -1, revIx n lo) s) : wpAny (model prog w) A (Builtin.Slice.sliceApplied (.ref sl) (pure (n : Int))) Q E s := by
  obtain ⟨os, hos, hcs, hds⟩ := id hs
  unfold Builtin.Slice.sliceApplied Builtin.Slice.sliceFields
  refine wpAny_bind (wpAny_bind (wpAny_field hos hds (x := vl) rfl (wpAny_bind (wpAny_field hos hds (x := vu) rfl (wpAny_bind (wpAny_field hos hds (x := vs) rfl (wpAny_pure ?_)))))))
  refine wpAny_bind (HT.slicePart_ ps ?_)
  show wpAny _ _ (if ((-1 : Int) == 0) = true then _ else _) _ _ s
  rw [if_neg (by decide)]
  refine wpAny_bind (HT.slicePart_ pl (wpAny_bind (HT.slicePart_ pu (wpAny_bind (wpAny_pure ?_)))))
  show wpAny _ _ (match Builtin.Slice.sliceAdjust lo none (-1) (n : Int) with | (lo, hi) => pure (lo, (-1 : Int), Builtin.Slice.slicePlaces lo hi (-1))) _ _ s
  rw [adjust_rev lo n]
  show wpAny _ _ (pure ((revIx n lo : Int) - 1, (-1 : Int), Builtin.Slice.slicePlaces ((revIx n lo : Int) - 1) (-1) (-1))) _ _ s
  rw [places_rev]
  exact wpAny_pure h
theorem getItem_tuple_rev {t sl : Addr} {items : Array Value} {vl vu vs : Value} {lo : Option Int} {Q : Value → Shared → Prop} (ht : IsTup s.heap t items) (hs : s.heap.IsSliceOf sl vl vu vs) (pl : IsPart vl lo) (pu : IsPart vu none) (ps : IsPart vs (some (-1)))
    (h : Q (.ref s.heap.objs.size) { s with heap := s.heap.push { cls := .type "tuple", data := .seq (items.toList.take (revIx items.size lo)).reverse.toArray } })
    (hsz : items.size ≤ sizeLine) : wpAny (model prog w) A (getItem (.ref t) (.ref sl)) Q E s := by
  have htake : sizeOk (.seq (items.toList.take (revIx items.size lo)).reverse.toArray) := by
    show (items.toList.take (revIx items.size lo)).reverse.toArray.size ≤ sizeLine
    rw [List.size_toArray, List.length_reverse, List.length_take, Array.length_toList]
    omega
  obtain ⟨os, hos, hcs, hds⟩ := id hs
  have hTs : s.TypeIs (.ref sl) "slice" := ⟨os, hos, hcs⟩
  unfold getItem
  try with_reducible refine wpAny_holding ?_
  first | refine wpAny_bind (wpAny_pure ?_) | skip
  refine wpAny_bind (wpAny_sequenceKey ht.typeIs (by decide) ?_)
  refine wpAny_bind (wpAny_callSpecial?_slot (name := Str.ofString "__getitem__") ht.typeIs PyProof.Rows.slot_tuple_getitem
    (wpAny_call_entry PyProof.Rows.slot_tuple_getitem ht.typeIs entry_tuple_getitem ?_ (args_tuple_getitem _ _)))
  show wpAny _ _ (Builtin.Tuple.tupleItemsOf (.ref t) >>= _) _ _ s
  refine wpAny_bind (tupleItemsOf_ ht ?_)
  refine wpAny_bind (wpAny_typeOf hTs ?_)
  rw [if_pos (by decide)]
  refine wpAny_bind (sliceApplied_rev hs pl pu ps ?_)
  have hno : ¬ ((((revIx items.size lo : Int) - 1) == 0 && (-1 : Int) == 1 && (revIx items.size lo) == items.size) = true) := by
    intro q
    rw [Bool.and_eq_true, Bool.and_eq_true] at q
    exact absurd q.1.2 (by decide)
  show wpAny _ _ (if ((((revIx items.size lo : Int) - 1) == 0 && (-1 : Int) == 1 && (revIx items.size lo) == items.size) = true) then _ else _) _ _ s
  rw [if_neg hno, pick_rev _ _ (revIx_le _ _)]
  first
    | exact wpAny_bind (m := Builtin.Tuple.tupleExact _) (wpAny_newObj_type (wpAny_pure ⟨_, rfl, wpAny_pure h⟩) htake)
    | exact wpAny_bind (m := Builtin.Tuple.tupleExact _) (wpAny_newObj_type (wpAny_bind (wpAny_pure (wpAny_pure ⟨_, rfl, wpAny_pure h⟩))) htake)
    | exact wpAny_bind (wpAny_bind (m := Builtin.Tuple.tupleExact _) (wpAny_newObj_type (wpAny_pure (wpAny_pure ⟨_, rfl, wpAny_pure h⟩)) htake))
    | exact wpAny_bind (wpAny_bind (m := Builtin.Tuple.tupleExact _) (wpAny_newObj_type (wpAny_pure ⟨_, rfl, wpAny_pure h⟩) htake))
end
def rRev (K : PySem.W.Frag) : V → Option Int → Hp → VK → Prop := fun x o H Q => ∃ a xs, x = .ref a ∧ ((o = none ∧ SqL K H a xs ∧ ∀ p, H p = none → Q (.ref p) (upd H p (.lst xs.reverse))) ∨ (SqT K H a xs ∧ ∀ p, H p = none → Q (.ref p) (upd H p (.tup (xs.take (revIx xs.length o)).reverse))))
def tRev (K : PySem.W.Frag) (te : TE) (tl : TO) : TE := fun σ H Q => te σ H fun x H1 => tl σ H1 fun o H2 => rRev K x o H2 Q
theorem pe_rev {e : Expr} {te : TE} {lo : Option Expr} {tl : TO} {k : Nat} {p1 p2 p3 pos : Pos} (he : PE X e te) (hl : PO X lo tl) : PE X (.Subscript e (.Slice lo none (some (.UnaryOp .USub (.Constant (.int 1) k p1) p2)) p3) pos) (tRev X.K te tl) := by
  refine ⟨fun pins s σ H Q I h => ?_⟩
  refine Subscript_ (thn (he.run pins s σ H _ I h) fun v s1 ⟨x, H1, I1, r1, q1⟩ => ?_)
  have hst : PO X (some (.UnaryOp .USub (.Constant (.int 1) k p1) p2)) (tPart (tUn (rU fun i => .int (-i)) (tC (.int 1)))) := po_some (pe_un un_neg pe_int)
  refine wpAny_Slice (thn (hl.run pins s1 σ H1 _ I1 q1) fun vl s2 ⟨l, H2, I2, pl, q2⟩ => ?_)
  refine thn (po_none.run pins s2 σ H2 (fun o H3 => o = none ∧ H3 = H2) I2 ⟨rfl, rfl⟩) fun vu s3 ⟨u, H3, I3, pu, eu, e3⟩ => ?_
  subst eu e3
  refine thn (hst.run pins s3 σ H3 (fun o H4 => o = some (-1) ∧ H4 = H3) I3 ⟨1, rfl, -1, rfl, rfl, rfl⟩) fun vs s4 ⟨o, H4, I4, ps, eo, e4⟩ => ?_
  subst eo e4
  have I5 : Inv X pins σ H4 { s4 with heap := s4.heap.push { cls := .type "slice", data := .fields #[vl, vu, vs] } } := I4.kept (t' := s4.toks) fun b ob q => Heap.get?_push_of_some _ q
  obtain ⟨a, xs, rfl, ⟨rfl, hx, q⟩ | ⟨hx, q⟩⟩ := q2
  · cases r1
    obtain ⟨its, r, ht, hz⟩ := I5.list hx
    have hlen := r.length
    show wpAny (model X.prog X.w) X.A (subscriptTail e (.Slice lo none (some (.UnaryOp .USub (.Constant (.int 1) k p1) p2)) p3) (.ref a) (.ref s4.heap.objs.size)) (EP X pins σ Q) X.xe { s4 with heap := s4.heap.push { cls := .type "slice", data := .fields #[vl, vu, vs] } }
    refine tail_any (ops := [.ref a, .ref s4.heap.objs.size]) ht.isList.typeIs (PySem.slot_list_getitem.lookup) ?_ (by with_unfolding_all rfl)
    refine wpAny_getItem_list_slice ht.isList (Heap.IsSliceOf.new _ vl vu vs) pl pu ps (by decide) ?_ (by rw [List.size_toArray]; omega)
    rw [PySem.W.krv_pick]
    refine ⟨.ref _, _, I5.laid (t' := s4.toks) (o := .lst xs.reverse) (fun b ob q => Heap.get?_push_of_some _ q) (Nat.le_refl _) ?_, rfl, q _ (I5.hok.fresh (Nat.le_refl _))⟩
    exact ⟨by rw [List.length_reverse]; exact hz, _, 0, r.reverse, Heap.get?_push_size _ rfl⟩
  · cases r1
    obtain ⟨its, r, ht, hz⟩ := I5.tuple hx
    have hlen : its.toArray.size = xs.length := by rw [List.size_toArray]; exact r.length.symm
    show wpAny (model X.prog X.w) X.A (subscriptTail e (.Slice lo none (some (.UnaryOp .USub (.Constant (.int 1) k p1) p2)) p3) (.ref a) (.ref s4.heap.objs.size)) (EP X pins σ Q) X.xe { s4 with heap := s4.heap.push { cls := .type "slice", data := .fields #[vl, vu, vs] } }
    refine tail_any (ops := [.ref a, .ref s4.heap.objs.size]) ht.typeIs (PyProof.Rows.slot_tuple_getitem.lookup) ?_ (by with_unfolding_all rfl)
    refine getItem_tuple_rev ht (Heap.IsSliceOf.new _ vl vu vs) pl pu ps ?_ (by rw [hlen]; exact hz)
    rw [hlen]
    refine ⟨.ref _, _, I5.laid (t' := s4.toks) (o := .tup (xs.take (revIx xs.length l)).reverse) (fun b ob q => Heap.get?_push_of_some _ q) (Nat.le_refl _) ?_, rfl, q _ (I5.hok.fresh (Nat.le_refl _))⟩
    exact ⟨by rw [List.length_reverse, List.length_take]; exact Nat.le_trans (Nat.min_le_right _ _) hz, _, (r.take _).reverse, IsTup.new _ _⟩
def dRev (de : DE) (dl : DO) : DE := fun δ μ Q => de δ μ fun x δ1 μ1 => dl δ1 μ1 fun o δ2 μ2 => (∃ l, x = .tup l ∧ Q (.tup (l.take (revIx l.length o)).reverse) δ2 μ2) ∨ (∃ l, o = none ∧ (∀ m, x ≠ .tup m) ∧ seqOf μ2 x = some l ∧ Q (.lst l.reverse) δ2 μ2)
theorem d_rev {e : Expr} {te : TE} {lo : Option Expr} {tl : TO} {de : DE} {dl : DO} {k : Nat} {p1 p2 p3 pos : Pos} (he : PD K Z X e te de) (hl : PDO K Z X lo tl dl) (hk : X.K = K := by rfl) : PD K Z X (.Subscript e (.Slice lo none (some (.UnaryOp .USub (.Constant (.int 1) k p1) p2)) p3) pos) (tRev K te tl) (dRev de dl) := by
  subst hk
  exact ⟨pe_rev he.p hl.p, fun B hB S μ H σ δ Q QD rl k q => by
    refine he.s B hB S μ H σ δ _ _ rl (fun S1 μ1 H1 δ1 x dx e1 r1 hx q1 => ?_) q
    refine hl.s B hB S1 μ1 H1 σ δ1 _ _ r1 (fun S2 μ2 H2 δ2 lo e2 r2 q2 => ?_) q1
    have hx' := Rep.mono e2 _ _ hx
    have ex := e1.trans e2
    rcases q2 with ⟨l, rfl, q⟩ | ⟨l, rfl, hn, e, q⟩
    · obtain ⟨a, vs, rfl, h1, h2⟩ := hx'
      refine ⟨a, vs, rfl, .inr ⟨exr_t r2.r3.ex (SqT.of h1), fun p hp => ?_⟩⟩
      obtain ⟨r4, g⟩ := r2.r3.alloc (o := .tup (vs.take (revIx vs.length lo)).reverse) hp
      refine k _ μ2 _ δ2 _ (.tup (l.take (revIx l.length lo)).reverse) (ex.trans g.ex) (r2.grow g r4) ⟨p, _, rfl, upd_same, RepL.mono g.ex _ _ (RepL.reverse ?_)⟩ q
      rw [RepL.length h2]
      exact RepL.take _ h2
    · obtain ⟨a, vs, rfl, hs, h2⟩ := seq_isL r2.r3 hx' hn e
      refine ⟨a, vs, rfl, .inl ⟨rfl, hs, fun p hp => ?_⟩⟩
      obtain ⟨r4, g⟩ := r2.r3.alloc (o := .lst vs.reverse) hp
      exact k _ μ2 _ δ2 _ (.lst l.reverse) (ex.trans g.ex) (r2.grow g r4) ⟨p, _, rfl, upd_same, RepL.mono g.ex _ _ (RepL.reverse h2)⟩ q⟩
def dRevO (i : Nat) : DE := fun δ μ Q => ∃ l, δ[i]? = some (.own (.lst l)) ∧ Q (.lst l.reverse) δ μ
theorem d_revO {x : Str} {k : Nat} {p p1 p2 p3 pos : Pos} (i : Nat) (hN : X.N[i]? = some x := by rfl) (hv : Vis X.env.scope x := by first | exact Or.inl rfl | exact Or.inr (Or.inl rfl) | exact Or.inr (Or.inr rfl)) (hd : (x == ("__debug__" : Str)) = false := by decide) (hcd : (x == ("__classdict__" : Str)) = false := by decide) (hk : X.K = K := by rfl) :
    PD K Z X (.Subscript (.Name x p) (.Slice none none (some (.UnaryOp .USub (.Constant (.int 1) k p1) p2)) p3) pos) (tRev K (tVar i) tNoPart) (dRevO i) := by
  subst hk
  exact ⟨pe_rev (pe_var hN hv hd hcd) po_none, fun B hB S μ H σ δ Q QD rl k q => by
    obtain ⟨l, e, q⟩ := q
    obtain ⟨p', o, e3, h2, vs, rfl, h3⟩ := rl.ownAt e
    refine ⟨.ref p', e3, p', vs, rfl, .inl ⟨rfl, SqL.of h2, fun p hp => ?_⟩⟩
    obtain ⟨r4, g⟩ := rl.r3.alloc (o := .lst vs.reverse) hp
    exact k _ μ _ δ _ (.lst l.reverse) g.ex (rl.grow g r4) ⟨p, _, rfl, upd_same, RepL.mono g.ex _ _ (RepL.reverse h3)⟩ q⟩
/-! ### a list of the heap, standing -/
structure LkL (K : PySem.W.Frag) (S0 : Hp) (a : Addr) (l : List D) (G : Mem → Prop) : Prop where
  at_ : ∀ S μ H, Ex S0 S → R3 K S μ H → G μ → ∃ vs, SqL K H a vs ∧ RepL K S l vs
theorem wkl_is {S : Hp} {μ : Mem} {H : Hp} {d : D} {v : V} {R : List D → (Mem → Prop) → Prop} (r : R3 K S μ H) (h : Rep K S d v) (w : WkL d μ R) : ∃ a l G, v = .ref a ∧ LkL K S a l G ∧ G μ ∧ R l G := by
  rcases w with ⟨l, hd, q⟩ | ⟨p, l, rfl, hm, q⟩
  · obtain ⟨a, vs, rfl, hl, h2⟩ : ∃ a vs, v = .ref a ∧ SqL K S a vs ∧ RepL K S l vs := by
      rcases hd with rfl | rfl
      · obtain ⟨a, vs, e, h1, h2⟩ := h
        exact ⟨a, vs, e, SqL.of h1, h2⟩
      · exact h
    exact ⟨a, l, _, rfl, ⟨fun S' μ' H' e r' _ => ⟨vs, exr_l r'.ex (ex_l e hl), RepL.mono e _ _ h2⟩⟩, trivial, q⟩
  · have h : v = .ref p := h
    subst h
    refine ⟨p, l, _, rfl, ⟨fun S' μ' H' e r' g => ?_⟩, hm, q⟩
    obtain ⟨_, o, h1, vs, rfl, h2⟩ := r'.mu p _ g
    exact ⟨vs, SqL.of h1, h2⟩
/-! ### enumerate -/
def enumD (l : List D) : List D := l.mapIdx fun i d => .tup [.int (i : Nat), d]
theorem wk_enum {S : Hp} {a : Addr} {l : List D} {G : Mem → Prop} (h : LkL K S a l G) : Wk K S (Ite K a) (enumD l) G where
  goes := fun S' μ H i e r g hi => by
    obtain ⟨vs, h1, h2⟩ := h.at_ S' μ H e r g
    have hi' : i < vs.length := by rw [RepL.length h2]; simpa [enumD] using hi
    exact ⟨vs, vs[i], h1, by simp [hi']⟩
  stops := fun S' μ H e r g => by
    obtain ⟨vs, h1, h2⟩ := h.at_ S' μ H e r g
    exact ⟨vs, h1, by rw [RepL.length h2]; simp [enumD]⟩
  yields := fun S' μ H i d x H' e r g hd y => by
    obtain ⟨vs, h1, h2⟩ := h.at_ S' μ H e r g
    obtain ⟨T, u, rfl, hT, rfl, y⟩ := y
    have y := y vs h1
    obtain ⟨d', hd', rfl⟩ : ∃ d', l[i]? = some d' ∧ d = .tup [.int (i : Nat), d'] := by
      unfold enumD at hd
      rw [List.getElem?_mapIdx] at hd
      cases e1 : l[i]? with
      | none => rw [e1] at hd; cases hd
      | some z => rw [e1] at hd; exact ⟨z, rfl, (Option.some.inj hd).symm⟩
    obtain ⟨v, e1, hv⟩ := RepL.get h2 hd'
    rw [e1] at y
    cases y
    obtain ⟨r4, gg⟩ := r.alloc (o := .tup [.int (i : Nat), u]) hT
    exact ⟨_, gg, r4, T, _, rfl, upd_same, _, _, rfl, rfl, RepL.one (Rep.mono gg.ex _ _ hv)⟩
def diEnum (da : DA) : DI := fun δ μ Q => da δ μ fun ds δ1 μ1 => ∃ d, ds = [d] ∧ WkL d μ1 fun l G => Q (enumD l) G δ1 μ1
theorem i_enum {e : Expr} {p pos tpos : Pos} {elts : List Expr} {kk : Nat} {ta : TA} {da : DA} (hg : Gl X "enumerate") (hm : X.mg "enumerate" = none) (ha : PDA K Z X [e] ta da) (hk : X.K = K := by rfl) (hs : starEach [e] X.env = [(false, eval e X.env)] := by rfl) :
    PDI K Z X (.Tuple elts kk tpos) (.Call (.Name "enumerate" p) [e] [] pos) (iEnum K ta) (diEnum da) := by
  subst hk
  exact ⟨pi_enum hg hm ha.p hs, fun B hB S μ H σ δ Q QD rl k q => by
    refine ha.s B hB S μ H σ δ _ _ rl (fun S1 μ1 H1 δ1 xs ds e1 r1 hx q1 => ?_) q
    obtain ⟨d, rfl, w⟩ := q1
    obtain ⟨v, rfl, hv⟩ := RepL.one' hx
    obtain ⟨a, l, G, rfl, lk, hG, q⟩ := wkl_is r1.r3 hv w
    obtain ⟨vs, h1, h2⟩ := lk.at_ S1 μ1 H1 (Ex.refl _) r1.r3 hG
    exact ⟨a, vs, rfl, h1, k S1 μ1 H1 δ1 _ _ G e1 r1 (wk_enum lk) q⟩⟩
/-! ### zip -/
def zipD (l m : List D) : List D := List.zipWith (fun a b => .tup [a, b]) l m
theorem zip_get {l m : List D} {i : Nat} {d : D} (h : (zipD l m)[i]? = some d) : ∃ a b, l[i]? = some a ∧ m[i]? = some b ∧ d = .tup [a, b] := by
  unfold zipD at h
  rw [List.getElem?_zipWith] at h
  cases e1 : l[i]? with
  | none => rw [e1] at h; cases h
  | some a =>
    cases e2 : m[i]? with
    | none => rw [e1, e2] at h; cases h
    | some b => rw [e1, e2] at h; exact ⟨a, b, rfl, rfl, (Option.some.inj h).symm⟩
theorem wk_zip {S : Hp} {a b : Addr} {l m : List D} {G G' : Mem → Prop} (h : LkL K S a l G) (h' : LkL K S b m G') : Wk K S (Itz K a b) (zipD l m) (fun μ => G μ ∧ G' μ) where
  goes := fun S' μ H i e r g hi => by
    obtain ⟨vs, h1, h2⟩ := h.at_ S' μ H e r g.1
    obtain ⟨ws, h3, h4⟩ := h'.at_ S' μ H e r g.2
    have hi := hi
    simp only [zipD, List.length_zipWith] at hi
    have hi1 : i < vs.length := by rw [RepL.length h2]; omega
    have hi2 : i < ws.length := by rw [RepL.length h4]; omega
    exact ⟨vs, ws, vs[i], ws[i], h1, h3, by simp [hi1], by simp [hi2]⟩
  stops := fun S' μ H e r g => by
    obtain ⟨vs, h1, h2⟩ := h.at_ S' μ H e r g.1
    obtain ⟨ws, h3, h4⟩ := h'.at_ S' μ H e r g.2
    refine ⟨vs, ws, h1, h3, ?_⟩
    rw [RepL.length h2, RepL.length h4]
    simp only [zipD, List.length_zipWith]
    omega
  yields := fun S' μ H i d x H' e r g hd y => by
    obtain ⟨vs, h1, h2⟩ := h.at_ S' μ H e r g.1
    obtain ⟨ws, h3, h4⟩ := h'.at_ S' μ H e r g.2
    obtain ⟨T, u, w, rfl, hT, rfl, y, y'⟩ := y
    have y := y vs h1
    have y' := y' ws h3
    obtain ⟨d1, d2, hd1, hd2, rfl⟩ := zip_get hd
    obtain ⟨v, e1, hv⟩ := RepL.get h2 hd1
    obtain ⟨v', e2, hv'⟩ := RepL.get h4 hd2
    rw [e1] at y
    rw [e2] at y'
    cases y
    cases y'
    obtain ⟨r4, gg⟩ := r.alloc (o := .tup [u, w]) hT
    exact ⟨_, gg, r4, T, _, rfl, upd_same, _, _, rfl, Rep.mono gg.ex _ _ hv, RepL.one (Rep.mono gg.ex _ _ hv')⟩
theorem wk_zipT {S : Hp} {a b : Addr} {l m : List D} {vs ws : List V} (h1 : SqT K S a vs) (h2 : RepL K S l vs) (h3 : SqT K S b ws) (h4 : RepL K S m ws) : Wk K S (RZ.ItzT K a b) (zipD l m) (fun _ => True) where
  goes := fun S' μ H i e r g hi => by
    have hi := hi
    simp only [zipD, List.length_zipWith] at hi
    have hi1 : i < vs.length := by rw [RepL.length h2]; omega
    have hi2 : i < ws.length := by rw [RepL.length h4]; omega
    exact ⟨vs, ws, vs[i], ws[i], exr_t r.ex (ex_t e h1), exr_t r.ex (ex_t e h3), by simp [hi1], by simp [hi2]⟩
  stops := fun S' μ H e r g => by
    refine ⟨vs, ws, exr_t r.ex (ex_t e h1), exr_t r.ex (ex_t e h3), ?_⟩
    rw [RepL.length h2, RepL.length h4]
    simp only [zipD, List.length_zipWith]
    omega
  yields := fun S' μ H i d x H' e r g hd y => by
    obtain ⟨T, u, w, rfl, hT, rfl, y, y'⟩ := y
    have y := y vs (exr_t r.ex (ex_t e h1))
    have y' := y' ws (exr_t r.ex (ex_t e h3))
    obtain ⟨d1, d2, hd1, hd2, rfl⟩ := zip_get hd
    obtain ⟨v, e1, hv⟩ := RepL.get h2 hd1
    obtain ⟨v', e2, hv'⟩ := RepL.get h4 hd2
    rw [e1] at y
    rw [e2] at y'
    cases y
    cases y'
    obtain ⟨r4, gg⟩ := r.alloc (o := .tup [u, w]) hT
    have eg := e.trans gg.ex
    exact ⟨_, gg, r4, T, _, rfl, upd_same, _, _, rfl, Rep.mono eg _ _ hv, RepL.one (Rep.mono eg _ _ hv')⟩
def diZip (da : DA) : DI := fun δ μ Q => da δ μ fun ds δ1 μ1 => ∃ d e, ds = [d, e] ∧ ((WkL d μ1 fun l G => WkL e μ1 fun m G' => Q (zipD l m) (fun μ => G μ ∧ G' μ) δ1 μ1) ∨ (∃ l m, d = .tup l ∧ e = .tup m ∧ Q (zipD l m) (fun _ => True) δ1 μ1))
theorem i_zip {e e2 : Expr} {p pos tpos : Pos} {elts : List Expr} {kk : Nat} {ta : TA} {da : DA} (hg : Gl X "zip") (hm : X.mg "zip" = none) (ha : PDA K Z X [e, e2] ta da) (hk : X.K = K := by rfl) (hs : starEach [e, e2] X.env = (false, eval e X.env) :: starEach [e2] X.env := by rfl) (hs2 : (backTo pos (starEach [e2] X.env)).any (·.1) = false := by rfl) :
    PDI K Z X (.Tuple elts kk tpos) (.Call (.Name "zip" p) [e, e2] [] pos) (RZ.iZipA K ta) (diZip da) := by
  subst hk
  exact ⟨RZ.pi_zipA hg hm ha.p hs hs2, fun B hB S μ H σ δ Q QD rl k q => by
    refine ha.s B hB S μ H σ δ _ _ rl (fun S1 μ1 H1 δ1 xs ds e1 r1 hx q1 => ?_) q
    obtain ⟨d, e, rfl, w⟩ := q1
    obtain ⟨v, v2, rfl, hv, hv2⟩ := RepL.two' hx
    rcases w with w | ⟨l, m, rfl, rfl, q⟩
    · obtain ⟨a, l, G, rfl, lk, hG, w⟩ := wkl_is r1.r3 hv w
      obtain ⟨b, m, G', rfl, lk2, hG2, q⟩ := wkl_is r1.r3 hv2 w
      obtain ⟨vs, h1, h2⟩ := lk.at_ S1 μ1 H1 (Ex.refl _) r1.r3 hG
      obtain ⟨ws, h3, h4⟩ := lk2.at_ S1 μ1 H1 (Ex.refl _) r1.r3 hG2
      exact ⟨a, b, vs, ws, rfl, .inl ⟨h1, h3, k S1 μ1 H1 δ1 _ _ _ e1 r1 (wk_zip lk lk2) q⟩⟩
    · obtain ⟨a, vs, rfl, h1, h2⟩ := hv
      obtain ⟨b, ws, rfl, h3, h4⟩ := hv2
      exact ⟨a, b, vs, ws, rfl, .inr ⟨exr_t r1.r3.ex (SqT.of h1), exr_t r1.r3.ex (SqT.of h3), k S1 μ1 H1 δ1 _ _ _ e1 r1 (wk_zipT (SqT.of h1) h2 (SqT.of h3) h4) q⟩⟩⟩
/-! ### a list, of the memory or not, or a tuple is walked -/
def iSeqA (K : PySem.W.Frag) (tl : TE) : TI := fun σ H R => tl σ H fun x H1 => ∃ a, x = .ref a ∧ ((∃ xs, SqL K H1 a xs) ∧ R (Itl K a) H1 ∨ (∃ xs, SqT K H1 a xs) ∧ R (Itt K a) H1)
theorem pi_seqA {tg l : Expr} {tl : TE} (hl : PE X l tl) : PI X tg l (iSeqA X.K tl) := by
  refine ⟨fun pins s σ H R I h => ?_⟩
  refine thn (hl.run pins s σ H _ I h) fun v s1 ⟨x, H1, I1, r1, q1⟩ => ?_
  obtain ⟨a, e, ⟨⟨xs, hq⟩, q⟩ | ⟨⟨xs, hq⟩, q⟩⟩ := q1
  · subst e
    cases r1
    obtain ⟨its, rv, p, hz⟩ := I1.list hq
    refine wpAny_pyIter_list p.isList ?_
    refine ⟨s1.heap.objs.size, [s1.heap.objs.size], _, _, H1, rfl, I1.kept (t' := s1.toks) fun b o e => Heap.get?_push_of_some _ e, turn_list a _, ⟨_, Heap.get?_push_size _ rfl, rfl, rfl⟩, fun b hb => ?_, q⟩
    have e : b = s1.heap.objs.size := by simpa using hb
    subst e
    exact I1.fpOk (Nat.le_refl _) (I1.hok.fresh (Nat.le_refl _))
  · subst e
    cases r1
    obtain ⟨its, rv, p, hz⟩ := I1.tuple hq
    refine wpAny_pyIter_tuple (show s1.heap.IsTuple a its.toArray from p) ?_
    refine ⟨s1.heap.objs.size, [s1.heap.objs.size], _, _, H1, rfl, I1.kept (t' := s1.toks) fun b o e => Heap.get?_push_of_some _ e, turn_tuple a _, ⟨_, Heap.get?_push_size _ rfl, rfl, rfl⟩, fun b hb => ?_, q⟩
    have e : b = s1.heap.objs.size := by simpa using hb
    subst e
    exact I1.fpOk (Nat.le_refl _) (I1.hok.fresh (Nat.le_refl _))
def WkA (d : D) (μ : Mem) (R : List D → (Mem → Prop) → Prop) : Prop := WkL d μ R ∨ ∃ l, d = .tup l ∧ R l (fun _ => True)
def diSeqA (de : DE) : DI := fun δ μ Q => de δ μ fun d δ1 μ1 => WkA d μ1 fun l G => Q l G δ1 μ1
theorem wk_lk {S : Hp} {a : Addr} {l : List D} {G : Mem → Prop} (h : LkL K S a l G) : Wk K S (Itl K a) l G where
  goes := fun S' μ H i e r g hi => by
    obtain ⟨vs, h1, h2⟩ := h.at_ S' μ H e r g
    have hi' : i < vs.length := by rw [RepL.length h2]; exact hi
    exact ⟨vs, vs[i], h1, by simp [hi']⟩
  stops := fun S' μ H e r g => by
    obtain ⟨vs, h1, h2⟩ := h.at_ S' μ H e r g
    exact ⟨vs, h1, by rw [RepL.length h2]; exact Nat.le_refl _⟩
  yields := fun S' μ H i d x H' e r g hd y => by
    obtain ⟨vs, h1, h2⟩ := h.at_ S' μ H e r g
    obtain ⟨rfl, y⟩ := y
    have y := y vs h1
    obtain ⟨v, e1, hv⟩ := RepL.get h2 hd
    rw [e1] at y
    cases y
    exact ⟨S', Grow.refl, r, hv⟩
theorem i_seqA {tg e : Expr} {te : TE} {de : DE} (h : PD K Z X e te de) (hk : X.K = K := by rfl) : PDI K Z X tg e (iSeqA K te) (diSeqA de) := by
  subst hk
  exact ⟨pi_seqA h.p, fun B hB S μ H σ δ Q QD rl k q => by
    refine h.s B hB S μ H σ δ _ _ rl (fun S1 μ1 H1 δ1 v d e1 r1 hv q1 => ?_) q
    rcases q1 with w | ⟨l, rfl, q1⟩
    · obtain ⟨a, l, G, rfl, lk, hG, q⟩ := wkl_is r1.r3 hv w
      obtain ⟨vs, h1, h2⟩ := lk.at_ S1 μ1 H1 (Ex.refl _) r1.r3 hG
      exact ⟨a, rfl, .inl ⟨⟨vs, h1⟩, k S1 μ1 H1 δ1 _ _ G e1 r1 (wk_lk lk) q⟩⟩
    · obtain ⟨a, vs, rfl, h1, h2⟩ := hv
      exact ⟨a, rfl, .inr ⟨⟨vs, exr_t r1.r3.ex (SqT.of h1)⟩, k S1 μ1 H1 δ1 _ l _ e1 r1 (wk_tup (SqT.of h1) h2) q1⟩⟩⟩
end Dl

namespace Dl
open PySem PySem.Spec PyProof.Rows L2
variable {X : Cx} {K : PySem.W.Frag} {Z : Bs}
/-! ### enumerate(tuple) -/
theorem meets_enum1B {v : Value} {o : Obj} {H : Heap → Prop} (B : Begins v o H) :
    Meets (Builtin.«enumerate.__new__» ⟨[.type "enumerate", v], []⟩) (fun _ R s => H s.heap ∧
      R (.ok (.ret (.ref (s.heap.push o).objs.size))) { s with heap := (s.heap.push o).push { cls := .type "enumerate", data := .fields #[.none, .bool false, .ref s.heap.objs.size, rawInt 0, .none, .none] } }) :=
  .of_wp fun prog w A R s h => by
    obtain ⟨hp, g, d, tk, os⟩ := s; obtain ⟨h1, h⟩ := h
    have hsub := sub_enumerate
    have q1 : ∀ {A' : Around} {E : Value → Shared → Prop} {Q : Value → Shared → Prop}, Q (.ref hp.objs.size) ⟨hp.push o, g, d, tk, os⟩ → wpAny (model prog w) A' (pyIter v) Q E ⟨hp, g, d, tk, os⟩ :=
      fun q => B.iter prog w _ _ ⟨hp, g, d, tk, os⟩ _ h1 q
    wp_walk using q1
    refine wpAny_stack_any fun st => wpAny_pure ?_
    split
    · rename_i c _ _ _ _ _
      cases (c == Value.type "enumerate")
      · wp_walk using q1
        exact ⟨_, rfl, h⟩
      · wp_walk using q1
        exact ⟨_, rfl, h⟩
    · wp_walk using q1
      exact ⟨_, rfl, h⟩
section
variable {prog : Program} {w : World} {A : Around} {E : Value → Shared → Prop} {s : Shared}
theorem call_enum1B {v : Value} {o : Obj} {H : Heap → Prop} {Q : Value → Shared → Prop} (B : Begins v o H) (h1 : H s.heap)
    (h : ∀ h', IsEnum h' (s.heap.objs.size + 1) s.heap.objs.size 0 .none → h'.get? s.heap.objs.size = some o → h'.objs.size = s.heap.objs.size + 2 →
      (∀ b o, s.heap.get? b = some o → h'.get? b = some o) → Q (.ref (s.heap.objs.size + 1)) { s with heap := h' }) :
    wpAny (model prog w) A (call (.type "enumerate") [v]) Q E s := by
  refine callType_new F.called_enumerate (by decide) (F.typeCall_enumerate_1 _) (F.newCall_enumerate_1 _) (fun obj => F.args_object_init_2 obj _) F.entry_enumerate_new
    (meets_enum1B B) ⟨h1, ?_⟩
  have hz : (s.heap.push o).objs.size = s.heap.objs.size + 1 := Heap.size_push ..
  show _ ∧ _
  rw [hz]
  have he : IsEnum ((s.heap.push o).push { cls := .type "enumerate", data := .fields #[.none, .bool false, .ref s.heap.objs.size, rawInt 0, .none, .none] }) (s.heap.objs.size + 1) s.heap.objs.size 0 .none := by
    have := Heap.get?_push_size (s.heap.push o) (o := { cls := .type "enumerate", data := .fields #[.none, .bool false, .ref s.heap.objs.size, rawInt 0, .none, .none] }) rfl
    rw [hz] at this; exact this
  refine ⟨⟨_, he, rfl⟩, h _ he (Heap.get?_push_of_some _ (Heap.get?_push_size _ B.free)) (by rw [Heap.size_push, hz]) fun b o x => Heap.get?_push_of_some _ (Heap.get?_push_of_some _ x)⟩
end
/-- the tuple at a, each item in a new pair -/
def IteT (K : PySem.W.Frag) (a : Addr) : It :=
  ⟨fun i H => ∃ (xs : List V) (x : V), SqT K H a xs ∧ xs[i]? = some x, fun i H v H' => ∃ T x, v = .ref T ∧ H T = none ∧ H' = upd H T (.tup [.int (i : Nat), x]) ∧ ∀ xs, SqT K H a xs → xs[i]? = some x, fun i H => ∃ xs : List V, SqT K H a xs ∧ xs.length = i⟩
theorem turn_enumT {P : Program} {w : World} {K : PySem.W.Frag} {elts : List Expr} {kk : Nat} {tpos : Pos} (a e it : Addr) :
    Turn P w K (.Tuple elts kk tpos) (IteT K a) [e, it] e (fun i h => (∃ old, IsEnum h e it ((i : Nat) : Int) old) ∧ h.IsTupleIter it a i ∧ e ≠ it) where
  mem := by simp
  obj := fun i h st b hb => by
    obtain ⟨⟨old, he⟩, ⟨o, ho, hc, hd⟩, _⟩ := st
    have e' : b = e ∨ b = it := by simpa using hb
    rcases e' with z | z
    · rw [z]; exact ⟨_, he, fun v q => nomatch q⟩
    · rw [z]; exact ⟨o, ho, fun v q => by rw [hd] at q; cases q⟩
  keep := fun i h h' st k => let ⟨⟨old, he⟩, hi, hne⟩ := st; ⟨⟨old, k e (by simp) _ he⟩, hi.at fun o q => k it (by simp) o q, hne⟩
  item := by
    intro X hP hw hK hc i pins s σ H E I hf st hg
    subst hP hw hK
    obtain ⟨⟨old, he⟩, hit, hne⟩ := st
    obtain ⟨xs, x, hq, hx⟩ := hg
    obtain ⟨its, rv, p, hz⟩ := I.tuple hq
    obtain ⟨u, hu, ru⟩ := rv.get hx
    have hel : e < s.heap.objs.size := Heap.lt_size he
    have hil : it < s.heap.objs.size := by obtain ⟨_, q, _⟩ := hit; exact Heap.lt_size q
    have hT : s.heap.IsTuple a its.toArray := p
    have nai : a ≠ it := fun z => by
      obtain ⟨o1, g1, c1, _⟩ := hT
      obtain ⟨o2, g2, c2, _⟩ := hit
      rw [z, g2] at g1
      cases g1
      rw [c1] at c2
      exact absurd c2 (by decide)
    have nea : e ≠ a := fun z => by
      obtain ⟨o1, g1, c1, _⟩ := hT
      rw [← z, he] at g1
      cases g1
      exact absurd (show Value.type "enumerate" = Value.type "tuple" from c1) (by decide)
    have hlt : i < its.toArray.size := by
      obtain ⟨h1, _⟩ := List.getElem?_eq_some_iff.mp hu
      simpa using h1
    refine wpAny_pyNext_enum_itemD (Draws.tuple (A := X.A.in1) (show X.A.in1.handled = none from I.ok.hd hc) it a nai its.toArray) he ⟨hit, hT⟩ hlt hne (by simp [hne, nea]) fun y h' tk hy ho st' hTp hsz hk => ?_
    have ey : y = u := by
      have hu' : its.toArray[i]? = some u := by simpa using hu
      rw [hu'] at hy
      exact (Option.some.inj hy).symm
    subst ey
    refine ⟨_, rfl, wpAny_letOwnedTupleGo_enum (s := { s with heap := h', toks := tk + 1 }) ho fun h'' he' sb => ?_⟩
    have hT2 : h''.get? s.heap.objs.size = some { cls := .type "tuple", data := .seq #[.int i tk, y] } := (sb.2 _ (Nat.ne_of_gt hel)).trans hTp
    have new : ObjOk X.prog X.w (upd H s.heap.objs.size (.tup [.int (i : Nat), x])) h'' s.heap.objs.size (.tup [.int (i : Nat), x]) :=
      ⟨by show 2 ≤ sizeLine; decide, [.int i tk, y], .cons ⟨_, rfl⟩ (.cons ru .nil), ⟨_, hT2, rfl, _, rfl⟩⟩
    have I1 : Inv X pins σ (upd H s.heap.objs.size (.tup [.int (i : Nat), x])) { s with heap := h'', toks := tk + 1 } :=
      I.turnedNew (ch := [e, it]) (fun b ob hb q => (sb.2 b (fun z => hb (by simp [z]))).trans (hk b ob (fun z => hb (by simp [z])) (fun z => hb (by simp [z])) q)) hf (Nat.le_refl _) new
    refine ⟨.ref s.heap.objs.size, _, I1, rfl, ⟨_, x, rfl, I.hok.fresh (Nat.le_refl _), rfl, fun ys hy => by rw [I.tuple_inj hy hq]; exact hx⟩, ⟨⟨y, ?_⟩, st'.1.at fun o q => (sb.2 it (Ne.symm hne)).trans q, hne⟩, fun b hb => ?_⟩
    · have e1 : ((i + 1 : Nat) : Int) = (i : Int) + 1 := by omega
      rw [e1]; exact he'
    · have hb' : b < s.heap.objs.size := by
        have e' : b = e ∨ b = it := by simpa using hb
        rcases e' with z | z
        · rw [z]; exact hel
        · rw [z]; exact hil
      rw [upd_ne (Nat.ne_of_lt hb')]
      exact (hf b hb).1
  done := by
    intro X hP hw hK hc i pins s σ H E I hf st hg
    subst hP hw hK
    obtain ⟨⟨old, he⟩, hit, hne⟩ := st
    obtain ⟨xs, hq, hx⟩ := hg
    obtain ⟨its, rv, p, hz⟩ := I.tuple hq
    obtain ⟨f0, f1, f2, f3, f4, f5⟩ := hf it (by simp)
    have hl := rv.length
    have hT : s.heap.IsTuple a its.toArray := p
    have nai : a ≠ it := fun z => by
      obtain ⟨o1, g1, c1, _⟩ := hT
      obtain ⟨o2, g2, c2, _⟩ := hit
      rw [z, g2] at g1
      cases g1
      rw [c1] at c2
      exact absurd c2 (by decide)
    have ei : i = its.toArray.size := by simp; omega
    rw [ei] at hit
    exact wpAny_pyNext_enum_endD (Draws.tuple (A := X.A.in1) (show X.A.in1.handled = none from I.ok.hd hc) it a nai its.toArray) he ⟨hit, hT⟩ fun h' eb => ⟨rfl, I.turned (t' := s.toks) (fun b o hb q => eb b o hb q) f0 f1 f3 f4 f5⟩
  self := fun A i s Q E st h => let ⟨⟨_, he⟩, _⟩ := st; wpAny_pyIter_enum he h
def iEnumA (K : PySem.W.Frag) (ta : TA) : TI := fun σ H R => ta σ H fun vs H1 => ∃ a xs, vs = [.ref a] ∧ ((SqL K H1 a xs ∧ R (Ite K a) H1) ∨ (SqT K H1 a xs ∧ R (IteT K a) H1))
theorem pi_enumA {e : Expr} {ta : TA} {p pos tpos : Pos} {elts : List Expr} {kk : Nat} (hg : Gl X "enumerate") (hm : X.mg "enumerate" = none) (ha : PA X [e] ta) (hs : starEach [e] X.env = [(false, eval e X.env)] := by rfl) :
    PI X (.Tuple elts kk tpos) (.Call (.Name "enumerate" p) [e] [] pos) (iEnumA X.K ta) := by
  refine ⟨fun pins s σ H R I h => ?_⟩
  refine Call_ (ld_blt I hg hm boot_enumerate (PyProof.Rows.callWith_type1 (thn (ha.run pos pins s σ H _ I h) fun us s1 ⟨vs, H1, I1, r1, q1⟩ => ?_) hs rfl))
  have fin : ∀ b, b ∈ [s1.heap.objs.size + 1, s1.heap.objs.size] → s1.heap.objs.size ≤ b := fun b hb => by
    have e' : b = s1.heap.objs.size + 1 ∨ b = s1.heap.objs.size := by simpa using hb
    rcases e' with z | z
    · rw [z]; exact Nat.le_add_right _ _
    · rw [z]; exact Nat.le_refl _
  obtain ⟨a, xs, ex, ⟨hq, q⟩ | ⟨hq, q⟩⟩ := q1
  · subst ex
    cases r1 with
    | cons r rr =>
      cases rr
      cases r
      obtain ⟨its, rv, p', hz⟩ := I1.list hq
      refine call_enumerate_list p'.isList fun h' he hit hsz hk => wpAny_pyIter_enum he ?_
      have I2 : Inv X pins σ H1 { s1 with heap := h' } := I1.kept (t' := s1.toks) hk
      refine ⟨s1.heap.objs.size + 1, [s1.heap.objs.size + 1, s1.heap.objs.size], _, _, H1, rfl, I2, turn_enum a (s1.heap.objs.size + 1) s1.heap.objs.size, ⟨⟨.none, he⟩, hit, Nat.succ_ne_self _⟩, fun b hb => ?_, q⟩
      exact I1.fpOk (fin b hb) (I1.hok.fresh (fin b hb))
  · subst ex
    cases r1 with
    | cons r rr =>
      cases rr
      cases r
      obtain ⟨its, rv, p', hz⟩ := I1.tuple hq
      refine call_enum1B (begins_tuple a its.toArray) (show s1.heap.IsTuple a its.toArray from p') fun h' he hit hsz hk => wpAny_pyIter_enum he ?_
      have I2 : Inv X pins σ H1 { s1 with heap := h' } := I1.kept (t' := s1.toks) hk
      refine ⟨s1.heap.objs.size + 1, [s1.heap.objs.size + 1, s1.heap.objs.size], _, _, H1, rfl, I2, turn_enumT a (s1.heap.objs.size + 1) s1.heap.objs.size, ⟨⟨.none, he⟩, ⟨_, hit, rfl, rfl⟩, Nat.succ_ne_self _⟩, fun b hb => ?_, q⟩
      exact I1.fpOk (fin b hb) (I1.hok.fresh (fin b hb))
theorem wk_enumT {S : Hp} {a : Addr} {vs : List V} {l : List D} (h1 : SqT K S a vs) (h2 : RepL K S l vs) : Wk K S (IteT K a) (enumD l) (fun _ => True) where
  goes := fun S' μ H i e r g hi => by
    have hi' : i < vs.length := by rw [RepL.length h2]; simpa [enumD] using hi
    exact ⟨vs, vs[i], exr_t r.ex (ex_t e h1), by simp [hi']⟩
  stops := fun S' μ H e r g => ⟨vs, exr_t r.ex (ex_t e h1), by rw [RepL.length h2]; simp [enumD]⟩
  yields := fun S' μ H i d x H' e r g hd y => by
    obtain ⟨T, u, rfl, hT, rfl, y⟩ := y
    have y := y vs (exr_t r.ex (ex_t e h1))
    obtain ⟨d', hd', rfl⟩ : ∃ d', l[i]? = some d' ∧ d = .tup [.int (i : Nat), d'] := by
      unfold enumD at hd
      rw [List.getElem?_mapIdx] at hd
      cases e1 : l[i]? with
      | none => rw [e1] at hd; cases hd
      | some z => rw [e1] at hd; exact ⟨z, rfl, (Option.some.inj hd).symm⟩
    obtain ⟨v, e1, hv⟩ := RepL.get h2 hd'
    rw [e1] at y
    cases y
    obtain ⟨r4, gg⟩ := r.alloc (o := .tup [.int (i : Nat), u]) hT
    exact ⟨_, gg, r4, T, _, rfl, upd_same, _, _, rfl, rfl, RepL.one (Rep.mono (e.trans gg.ex) _ _ hv)⟩
def diEnumA (da : DA) : DI := fun δ μ Q => da δ μ fun ds δ1 μ1 => ∃ d, ds = [d] ∧ WkA d μ1 fun l G => Q (enumD l) G δ1 μ1
theorem i_enumA {e : Expr} {p pos tpos : Pos} {elts : List Expr} {kk : Nat} {ta : TA} {da : DA} (hg : Gl X "enumerate") (hm : X.mg "enumerate" = none) (ha : PDA K Z X [e] ta da) (hk : X.K = K := by rfl) (hs : starEach [e] X.env = [(false, eval e X.env)] := by rfl) :
    PDI K Z X (.Tuple elts kk tpos) (.Call (.Name "enumerate" p) [e] [] pos) (iEnumA K ta) (diEnumA da) := by
  subst hk
  exact ⟨pi_enumA hg hm ha.p hs, fun B hB S μ H σ δ Q QD rl k q => by
    refine ha.s B hB S μ H σ δ _ _ rl (fun S1 μ1 H1 δ1 xs ds e1 r1 hx q1 => ?_) q
    obtain ⟨d, rfl, w⟩ := q1
    obtain ⟨v, rfl, hv⟩ := RepL.one' hx
    rcases w with w | ⟨l, rfl, q⟩
    · obtain ⟨a, l, G, rfl, lk, hG, q⟩ := wkl_is r1.r3 hv w
      obtain ⟨vs, h1, h2⟩ := lk.at_ S1 μ1 H1 (Ex.refl _) r1.r3 hG
      exact ⟨a, vs, rfl, .inl ⟨h1, k S1 μ1 H1 δ1 _ _ G e1 r1 (wk_enum lk) q⟩⟩
    · obtain ⟨a, vs, rfl, h1, h2⟩ := hv
      exact ⟨a, vs, rfl, .inr ⟨exr_t r1.r3.ex (SqT.of h1), k S1 μ1 H1 δ1 _ _ _ e1 r1 (wk_enumT (SqT.of h1) h2) q⟩⟩⟩
end Dl

namespace Dl
open PySem PySem.Spec PyProof.Rows L2
variable {X : Cx} {K : PySem.W.Frag} {Z : Bs}
/-! ### sorted(d), keys whole numbers, any number of them -/
theorem call_sortedDN (hcalm : X.calm = true) : CallR X (.builtin "sorted") (fun xs H Q => ∃ (a : Addr) (kvs : List (Key × V)) (ks : List Int), xs = [.ref a] ∧ Rd H a (.dK kvs) ∧ kvs.map (·.1) = ks.map Sum.inl ∧ ks.length ≤ sizeLine ∧
    ∀ (ys : List Int) (p : Addr), ys.Perm ks → ys.Pairwise (· ≤ ·) → H p = none → Q (.ref p) (upd H p (.lst (ys.map V.int)))) := by
  intro pins s σ H xs us Q I r q
  obtain ⟨a, kvs, ks, ex, hd, hks, h64, q⟩ := q
  subst ex
  obtain ⟨u, eu, rx⟩ := vals1 r
  subst eu
  cases rx
  obtain ⟨z, lo, vs, rel, dd⟩ := dk_rd I.hok hd
  obtain ⟨ep, hat⟩ := dd.dictAt
  have hkeys : vs.map (·.1) = ks.map Sum.inl := rel.keys.symm.trans hks
  have hl : vs.length = ks.length := by
    have e := congrArg List.length hkeys
    rw [List.length_map, List.length_map] at e
    exact e
  have h16 : vs.length ≤ sizeLine := by rw [hl]; exact h64
  refine Calls.call_function_entry PyProof.Rows.kind_sorted PyProof.Rows.plain_sorted PyProof.Rows.entry_sorted (PyProof.Rows.args_sorted1 _) ?_
  unfold Builtin.«sorted»
  refine wpAny_bind (m := checkCount "sorted" 1 1 _) (wpAny_pure ?_)
  refine wpAny_bind (PySem.W.kdu_collect (A := X.A.in1) (PySem.W.kdl_dict (knd := mixKind X.prog X.w) (kvs := vs) (ep := ep) lo) (I.ok.hd hcalm) hat h16 fun h' tk acc hk hacc => ?_)
  have hal : acc.toList.length = ks.length := by rw [Array.length_toList, hacc.1, hl]
  have hS : IntsAre acc.toList ks := ints_each hal fun j v e => by
    obtain ⟨k, x, e1, e2⟩ := hacc.2 j v (by rw [← Array.getElem?_toList]; exact e)
    have e3 : (vs.map (·.1))[j]? = some k := by rw [List.getElem?_map, e1]; rfl
    rw [hkeys, List.getElem?_map] at e3
    cases e4 : ks[j]? with
    | none => rw [e4] at e3; cases e3
    | some y =>
      rw [e4] at e3
      have e5 : Sum.inl y = k := Option.some.inj e3
      subst e5
      rcases keyIs_shape (show keyIs (Sum.inl y) v = true from e2) with ⟨i, t, ek, ev⟩ | ⟨z, t, ek, ev⟩
      · cases ek
        exact ⟨y, t, rfl, ev⟩
      · cases ek
  have I1 : Inv X pins σ H { s with heap := h', toks := tk } := I.kept hk
  have hz : acc.toList.length ≤ sizeLine := by rw [hal]; exact h64
  refine wpAny_bind (wpAny_newList ?_ hz)
  have hoL : (h'.push (seqObj "list" acc.toList.toArray 0)).get? h'.objs.size = some (seqObj "list" acc.toList.toArray 0) := Heap.get?_push_size _ rfl
  show wpAny _ _ _ _ _ { s with heap := h'.push (seqObj "list" acc.toList.toArray 0), toks := tk }
  refine wpAny_bind (wpAny_holding (wpAny_call_entry PyProof.Rows.slot_list_sort ⟨_, hoL, rfl⟩ PyProof.Rows.entry_list_sort
    (SrtO.list_sort_ord (s := { s with heap := h'.push (seqObj "list" acc.toList.toArray 0), toks := tk }) SrtO.swo_int hoL hz (fun h2 => SrtO.ints_sortable hS h2) fun out h1 h2 => ⟨_, rfl, ?_⟩) (PyProof.Rows.args_list_sort _)))
  obtain ⟨g1, g2, g3⟩ := SrtO.ints_out hS h1 h2
  obtain ⟨e', he'⟩ := PyProof.Rows.sortedHeap_at (vs := acc.toList) (out := out.toArray) hoL
  have hlen : ((out.map SrtO.iv).map V.int).length ≤ sizeLine := by
    rw [List.length_map, g2.length_eq]
    exact h64
  refine wpAny_pure ⟨_, rfl, .ref h'.objs.size, upd H h'.objs.size (.lst ((out.map SrtO.iv).map V.int)), I1.laid (t' := tk) (fun b u e => ?_) (Nat.le_refl _)
    (show ObjOk X.prog X.w _ _ _ (.lst ((out.map SrtO.iv).map V.int)) from ⟨hlen, out, e', vals_of_ints g1, he'⟩), rfl, q _ _ g2 g3 (I1.hok.fresh (Nat.le_refl _))⟩
  have hb : b < h'.objs.size := Heap.lt_size e
  rw [PyProof.Rows.sortedHeap_old (Nat.ne_of_lt hb) (by rw [size_push']; exact Nat.lt_succ_of_lt hb)]
  exact Heap.get?_push_of_some _ e
def rdSortDN : DC := fun xs μ Q => ∃ (d : D) (l : List (Key × D)) (ks : List Int), xs = [d] ∧ dicOf μ d = some l ∧ l.map (·.1) = ks.map Sum.inl ∧ ks.length ≤ 100000 ∧ ∀ ns : List Int, ns.Perm ks → ns.Pairwise (· ≤ ·) → Q (.lst (ns.map .int)) μ
theorem c_sortDN (hc : X.calm = true) : PDC K X (.builtin "sorted") (fun xs H Q => ∃ (a : Addr) (kvs : List (Key × V)) (ks : List Int), xs = [.ref a] ∧ Rd H a (.dK kvs) ∧ kvs.map (·.1) = ks.map Sum.inl ∧ ks.length ≤ sizeLine ∧ ∀ (ys : List Int) (p : Addr), ys.Perm ks → ys.Pairwise (· ≤ ·) → H p = none → Q (.ref p) (upd H p (.lst (ys.map V.int)))) rdSortDN :=
  ⟨call_sortedDN hc, fun S μ H xs ds Q QD r hx k q => by
    obtain ⟨d, l, ks, rfl, h1, h2, h3, q⟩ := q
    obtain ⟨v, rfl, hv⟩ := RepL.one' hx
    obtain ⟨a, vs, rfl, h4, h5⟩ := dic_is r hv h1
    refine ⟨a, vs, ks, rfl, h4, by rw [RepK.keys h5]; exact h2, Nat.le_trans h3 (by rw [sizeLine_eq]; decide), fun ys p y1 y2 hp => ?_⟩
    obtain ⟨r2, g⟩ := r.alloc (o := .lst (ys.map V.int)) hp
    exact k _ μ _ _ (.lst (ys.map .int)) g r2 ⟨p, _, rfl, upd_same, RepL.ints⟩ (q ys y1 y2)⟩
/-! ### len(d) -/
def rLenD : List V → Hp → VK → Prop := fun xs H Q => ∃ (a : Addr) (kvs : List (Key × V)), xs = [.ref a] ∧ Rd H a (.dK kvs) ∧ Q (.int kvs.length) H
theorem call_lenD : CallR X (.builtin "len") rLenD := by
  intro pins s σ H xs us Q I r q
  obtain ⟨a, kvs, rfl, hd, q⟩ := q
  obtain ⟨u, rfl, rx⟩ := vals1 r
  cases rx
  exact d_len I hd fun t s' I' => ⟨.int kvs.length, H, I', ⟨_, rfl⟩, q⟩
def rdLenD : DC := fun xs μ Q => ∃ (d : D) (l : List (Key × D)), xs = [d] ∧ dicOf μ d = some l ∧ Q (.int l.length) μ
theorem c_lenD : PDC K X (.builtin "len") rLenD rdLenD := ⟨call_lenD, fun S μ H xs ds Q QD r hx k q => by
  obtain ⟨d, l, rfl, h1, q⟩ := q
  obtain ⟨v, rfl, hv⟩ := RepL.one' hx
  obtain ⟨a, vs, rfl, h4, h5⟩ := dic_is r hv h1
  exact ⟨a, vs, rfl, h4, k S μ H _ (.int l.length) Grow.refl r (by rw [RepK.len h5]; rfl) q⟩⟩
/-! ### x < y, data -/
def rLtD (K : PySem.W.Frag) : R2 := fun x y H Q => ∃ d e, Dp K H x d ∧ Dp K H y e ∧ PySem.W.alike d e = true ∧ d ≠ .none ∧ d.depth ≤ 64 ∧ Q (.bl (PySem.W.dataLt d e)) H
theorem op_ltD (hu : X.A.units + 64 < cLine) : OpR X (compareOp .Lt) (rLtD X.K) := by
  intro pins s σ H x y v u Q I rx ry h
  obtain ⟨d, e, hd, he, ha, hn, hp, q⟩ := h
  obtain ⟨as, r1⟩ := Dp.reads I d x v hd rx
  obtain ⟨bs, r2⟩ := Dp.reads I e y u he ry
  exact PySem.W.rcLt_alike d e X.A s v u as bs r1 r2 ha hn (by have : min d.depth e.depth ≤ d.depth := Nat.min_le_left _ _; omega) X.prog X.w X.xe _ ⟨.bl _, H, I, rfl, q⟩
def rdLtD : DR := fun x y μ Q => ∃ p q, pd x = some p ∧ pd y = some q ∧ PySem.W.alike p q = true ∧ p ≠ .none ∧ p.depth ≤ 64 ∧ Q (.bl (PySem.W.dataLt p q)) μ
theorem o_ltD (hu : X.A.units + 64 < cLine) (hk : X.K = K := by rfl) : PDOp K X (compareOp .Lt) (rLtD K) rdLtD := by
  subst hk
  exact ⟨op_ltD hu, fun S μ H x y dx dy Q QD r hx hy k q => by
    obtain ⟨p, q', h1, h2, ha, hn, hd, q⟩ := q
    exact ⟨p, q', dp_of r.ex _ _ _ hx h1, dp_of r.ex _ _ _ hy h2, ha, hn, hd, k S μ H _ (.bl _) Grow.refl r rfl q⟩⟩
/-! ### min(x, y), data -/
section
variable {prog : Program} {w : World} {A : Around} {E : Value → Shared → Prop} {s : Shared}
open PySem.W in
theorem min_two_data {a b : Value} {da db : PyData} {as bs : List Addr} {Q : Value → Shared → Prop} (hh : A.handled = none) (ra : Reads s.heap a da as) (rb : Reads s.heap b db bs) (ha : alike da db = true) (ha' : alike da da = true) (hb' : alike db db = true) (hn : da ≠ .none) (hd : da.depth ≤ 40) (hd' : db.depth ≤ 40) (hu : A.units + 64 < cLine)
    (h : ∀ h' tk, (∀ b o, s.heap.get? b = some o → h'.get? b = some o) → Q (if dataLt db da = true then b else a) { s with heap := h', toks := tk }) :
    wpAny (model prog w) A (call (.builtin "min") [a, b]) Q E s := by
  have hname : (toString "min" ++ toString ".loop" : String) = "min.loop" := by decide
  refine call_function_tree F.kind_min F.plain_min F.entry_min (F.args_min2 _ _) ?_
  show wpAny _ A.in1 (Builtin.Builtins.bindParams "min" ["key", "default"] 0 ⟨[], []⟩ >>= _) _ _ s
  refine wpAny_bind (wpAny_of_eq (show Builtin.Builtins.bindParams "min" ["key", "default"] 0 ⟨[], []⟩ = pure [none, none] from rfl) ?_)
  show wpAny _ A.in1 (newTuple [a, b] >>= _) _ _ s
  refine wpAny_bind (wpAny_newObj_type ?_)
  have k1 : ∀ b' o, s.heap.get? b' = some o → (s.heap.push { cls := .type "tuple", data := .seq #[a, b] }).get? b' = some o := fun _ _ e => Heap.get?_push_of_some _ e
  have hT : (s.heap.push { cls := .type "tuple", data := .seq #[a, b] }).IsTuple s.heap.objs.size #[a, b] := ⟨_, Heap.get?_push_size _ rfl, rfl, _, rfl⟩
  have hr : ReadsAll (s.heap.push { cls := .type "tuple", data := .seq #[a, b] }) (#[a, b] : Array Value).toList [da, db] (as ++ (bs ++ [])) := ReadsAll.cons (Reads.keeps k1 ra) (ReadsAll.cons (Reads.keeps k1 rb) ReadsAll.nil)
  have nb : db ≠ .none := ne_none_both ha hn
  have hA : AlikeAll [da, db] := by
    constructor
    · intro x hx y hy
      simp only [List.mem_cons, List.not_mem_nil, or_false] at hx hy
      rcases hx with rfl | rfl <;> rcases hy with rfl | rfl
      · exact ha'
      · exact ha
      · rw [alike_comm]; exact ha
      · exact hb'
    · intro x hx
      simp only [List.mem_cons, List.not_mem_nil, or_false] at hx
      rcases hx with rfl | rfl
      · exact hn
      · exact nb
  have hdp : PyData.depthAll [da, db] ≤ 41 := by simp [PyData.depthAll]; omega
  refine wpAny_bind (iter_tupleW (s := { s with heap := s.heap.push { cls := .type "tuple", data := .seq #[a, b] } }) (A := A.in1) hh hT fun s₂ e W hst hfp hw hkeep => ?_)
  have hcmp := cmpIn_lt (prog := prog) (w := w) (s := { s with heap := s.heap.push { cls := .type "tuple", data := .seq #[a, b] } }) (A := A.in1) hr hA (by show A.units + 1 + _ < _; omega)
  refine wpAny_bind (wpAny_newObj_type ?_)
  have hSf : s₂.heap.objs.size ∉ [(s.heap.push { cls := .type "tuple", data := .seq #[a, b] }).objs.size, s.heap.objs.size] := fun hm => Nat.lt_irrefl _ (hfp _ hm)
  rw [hname]
  refine wpAny_pure ⟨plainId_quiet F.plain_min_loop _, codeAny_min_loop_firstH W (s.heap.push { cls := .type "tuple", data := .seq #[a, b] }) hw _ hcmp s₂.heap.objs.size hSf (fresh_in hkeep) _ (by simp) (fun b o e => Heap.get?_push_of_some _ (hkeep b o e)) (W.frame 0 s₂ _ s₂.toks hst (Nat.le_refl _) fun b _ o e => Heap.get?_push_of_some _ e) (Heap.get?_push_size _ rfl) fun v s' hP hm => ?_⟩
  have mv := Moved.drop_new (tk := s₂.toks) hm (Nat.le_refl _)
  obtain ⟨h', tk, rfl, hk'⟩ := moved_old e rfl mv
  have ev : v = if dataLt db da = true then b else a := by
    have hP : (#[a, b] : Array Value)[argBest (fun i j => dataLt (([da, db] : List PyData).getD i .none) (([da, db] : List PyData).getD j .none)) 1]? = some v := hP
    have eb : argBest (fun i j => dataLt (([da, db] : List PyData).getD i .none) (([da, db] : List PyData).getD j .none)) 1 = if dataLt db da = true then 1 else 0 := rfl
    rw [eb] at hP
    by_cases z : dataLt db da = true
    · rw [if_pos z] at hP ⊢
      exact (Option.some.inj hP).symm
    · rw [if_neg z] at hP ⊢
      exact (Option.some.inj hP).symm
  rw [ev]
  exact h h' tk fun b' o q => hk' b' o (k1 b' o q)
end

def rMin2D (K : PySem.W.Frag) : List V → Hp → VK → Prop := fun xs H Q => ∃ x y d e, xs = [x, y] ∧ Dp K H x d ∧ Dp K H y e ∧ PySem.W.alike d e = true ∧ PySem.W.alike d d = true ∧ PySem.W.alike e e = true ∧ d ≠ .none ∧ d.depth ≤ 40 ∧ e.depth ≤ 40 ∧ Q (if PySem.W.dataLt e d = true then y else x) H
theorem call_min2D (hc : X.calm = true) (hu : X.A.units + 64 < cLine) : CallR X (.builtin "min") (rMin2D X.K) := by
  intro pins s σ H xs us Q I r h
  obtain ⟨x, y, d, e, rfl, hd, he, h1, h2, h3, hn, h4, h5, q⟩ := h
  obtain ⟨u, w', rfl, rx, ry⟩ := vals2 r
  obtain ⟨as, r1⟩ := Dp.reads I d x u hd rx
  obtain ⟨bs, r2⟩ := Dp.reads I e y w' he ry
  refine min_two_data (I.ok.hd hc) r1 r2 h1 h2 h3 hn h4 h5 hu fun h' tk k => ⟨_, H, I.kept k, ?_, q⟩
  by_cases z : PySem.W.dataLt e d = true
  · rw [if_pos z, if_pos z]; exact ry
  · rw [if_neg z, if_neg z]; exact rx
def rdMin2D : DC := fun xs μ Q => ∃ x y p q, xs = [x, y] ∧ pd x = some p ∧ pd y = some q ∧ PySem.W.alike p q = true ∧ PySem.W.alike p p = true ∧ PySem.W.alike q q = true ∧ p ≠ .none ∧ p.depth ≤ 40 ∧ q.depth ≤ 40 ∧ Q (if PySem.W.dataLt q p = true then y else x) μ
theorem c_min2D (hc : X.calm = true) (hu : X.A.units + 64 < cLine) (hk : X.K = K := by rfl) : PDC K X (.builtin "min") (rMin2D K) rdMin2D := by
  subst hk
  exact ⟨call_min2D hc hu, fun S μ H xs ds Q QD r hx k q => by
    obtain ⟨x, y, p, q', rfl, h1, h2, a1, a2, a3, hn, d1, d2, q⟩ := q
    obtain ⟨v, w, rfl, hv, hw⟩ := RepL.two' hx
    refine ⟨v, w, p, q', rfl, dp_of r.ex _ _ _ hv h1, dp_of r.ex _ _ _ hw h2, a1, a2, a3, hn, d1, d2, ?_⟩
    refine k S μ H _ (if PySem.W.dataLt q' p = true then y else x) Grow.refl r ?_ q
    split
    · exact hw
    · exact hv⟩
/-! ### d.get(k, x) -/
def dGetD (da db dx : DE) : DE := fun δ μ Q => da δ μ fun x δ1 μ1 => (∃ l, dicOf μ1 x = some l) ∧ db δ1 μ1 fun y δ2 μ2 => dx δ2 μ2 fun z δ3 μ3 => ∃ l k, dicOf μ3 x = some l ∧ keyD y = some k ∧ Q ((valD l k).getD z) δ3 μ3
theorem d_getD {o e f : Expr} {apos cpos : Pos} {td ty tx : TE} {da db dx : DE} (hu : X.A.units + 1 < cLine) (ho : PD K Z X o td da) (he : PD K Z X e ty db) (hf : PD K Z X f tx dx)
    (h1 : attributeBase o "get" X.env (eval o X.env) = eval o X.env := by rfl) (h2 : ((backTo cpos (starEach [e, f] X.env)).all (fun x => !x.1) && (backToKw cpos (keywordEach [] X.env)).all (fun x => x.1.isSome)
    && decide (([e, f] : List Expr).length + ([] : List Keyword).length + (if ([] : List Keyword).isEmpty then 0 else 1) < 30)) = true := by rfl) (h3 : (apos.endLine == cpos.line) = true := by rfl) (h4 : backTo cpos (starEach [e, f] X.env) = [(false, eval e X.env), (false, eval f X.env)] := by rfl) :
    PD K Z X (.Call (.Attribute o "get" apos) [e, f] [] cpos) (tDGet2 td ty tx) (dGetD da db dx) := ⟨pe_dget2 hu ho.p he.p hf.p ⟨h1, h2, h3, h4⟩, fun B hB S μ H σ δ Q QD rl k q => by
  refine ho.s B hB S μ H σ δ _ _ rl (fun S1 μ1 H1 δ1 x dx' e1 r1 hx q1 => ?_) q
  obtain ⟨⟨l0, hl0⟩, q1⟩ := q1
  obtain ⟨a, vs0, rfl, hd0, _⟩ := dic_is r1.r3 hx hl0
  refine ⟨a, rfl, .inl ⟨vs0, hd0⟩, ?_⟩
  refine he.s B hB S1 μ1 H1 σ δ1 _ _ r1 (fun S2 μ2 H2 δ2 y dy e2 r2 hy q2 => ?_) q1
  refine hf.s B hB S2 μ2 H2 σ δ2 _ _ r2 (fun S3 μ3 H3 δ3 z dz e3 r3 hz q3 => ?_) q2
  obtain ⟨l, kk, hl, hk, q3⟩ := q3
  obtain ⟨a', vs, ea, hd, h5⟩ := dic_is r3.r3 (Rep.mono (e2.trans e3) _ _ hx) hl
  cases ea
  have hy' := key_v hy hk
  subst hy'
  obtain ⟨v1, v2⟩ := RepK.val (k := kk) h5
  refine ⟨valV vs kk, .inl ⟨vs, kk, hd, rfl, rfl⟩, ?_⟩
  refine k S3 μ3 H3 δ3 _ ((valD l kk).getD dz) ((e1.trans e2).trans e3) r3 ?_ q3
  cases ev : valD l kk with
  | none => rw [v2 ev]; exact hz
  | some d =>
    obtain ⟨v, e4, h4⟩ := v1 d ev
    rw [e4]; exact h4⟩
/-! ### {k: v} -/
def dDic1 (kc : Key) (dv : DE) : DE := fun δ μ Q => ∀ p, μ p = none → dv δ (updM μ p (.dct [])) fun d δ1 μ1 => μ1 p = some (.dct []) ∧ Q (.ref p) δ1 (updM μ1 p (.dct [(kc, d)]))
theorem d_dic1 {k v : Expr} {pos : Pos} {tk tv : TE} {kd : D} {kc : Key} {dv : DE} (hk : PD K Z X k tk (dC kd)) (hkc : keyD kd = some kc) (hv : PD K Z X v tv dv) : PD K Z X (.Dict [some k] [v] pos) (tDisp [(tk, tv)]) (dDic1 kc dv) :=
  ⟨pe_disp (pps_cons hk.p hv.p pps_nil) rfl rfl (by simp) (by simp), fun B hB S μ H σ δ Q QD rl kq q => fun p hp => by
    obtain ⟨r2, g⟩ := rl.r3.cell (o := .dK []) (m := .dct []) hp ⟨[], rfl, rfl⟩
    have rl2 := rl.grow g r2
    refine hk.s B hB S _ _ σ δ _ (fun d δ1 μ1 => d = kd ∧ δ1 = δ ∧ μ1 = updM μ p (.dct [])) rl2 (fun S1 μ1 H1 δ1 x dx e1 r1 hx q1 => ?_) ⟨rfl, rfl, rfl⟩
    obtain ⟨rfl, rfl, rfl⟩ := q1
    refine hv.s B hB S1 _ H1 σ δ1 _ _ r1 (fun S2 μ2 H2 δ2 y dy e2 r2' hy q2 => ?_) (q p (rl.r3.free hp).2)
    obtain ⟨hm, q2⟩ := q2
    obtain ⟨_, o', h3, vs, rfl, h4⟩ := r2'.r3.mu p _ hm
    have h4 : vs = [] := h4
    subst h4
    have hx' := key_v hx hkc
    subst hx'
    refine ⟨h3, [(kc, y)], rfl, by simp, ?_⟩
    obtain ⟨r4, g4⟩ := r2'.r3.write hm (o := .dK (mergeK [] [(kc, y)])) (m := .dct [(kc, dy)]) ⟨_, rfl, ⟨y, [], rfl, hy, rfl⟩⟩
    exact kq S2 _ _ δ2 _ (.ref p) (e1.trans e2) (r2'.grow g4 r4) rfl q2⟩
/-! ### list(d.items()) -/
theorem R3.lay {S : Hp} {μ : Mem} {H H' : Hp} (r : R3 K S μ H) (as : List Addr) (hk : ∀ b o, H b = some o → H' b = some o) (ha : ∀ a ∈ as, H a = none ∧ ∃ o, H' a = some o ∧ notMet o) : R3 K (fun b => if b ∈ as then H' b else S b) μ H' ∧ Grow S μ H (fun b => if b ∈ as then H' b else S b) μ H' := by
  have nin : ∀ a o, H a = some o → a ∉ as := fun a o e h => by rw [(ha a h).1] at e; cases e
  have sn : ∀ a, a ∈ as → S a = none := fun a h => (r.free (ha a h).1).1
  have ex : Ex S (fun b => if b ∈ as then H' b else S b) := fun a o e => by
    show (if a ∈ as then H' a else S a) = some o
    rw [if_neg (fun h => by rw [sn a h] at e; cases e)]
    exact e
  refine ⟨⟨fun a u e => ?_, fun a m e => ?_, ⟨fun z hz => ?_⟩⟩, ⟨ex, fun a u e => ?_, fun a u e _ _ _ => hk a u e, fun a m e => .inl (by rw [e]; rfl), fun a o e => ⟨o, hk a o e⟩⟩⟩
  · have e : (if a ∈ as then H' a else S a) = some u := e
    by_cases h : a ∈ as
    · rw [if_pos h] at e
      obtain ⟨_, o, e2, hn⟩ := ha a h
      rw [e] at e2
      cases e2
      exact .inl ⟨e, hn⟩
    · rw [if_neg h] at e
      rcases r.ex a u e with z | ⟨z, o, ho⟩ | ⟨sa, n, z, ho, hn⟩
      · exact .inl ⟨hk _ _ z.1, z.2⟩
      · exact .inr (.inl ⟨z, o, hk _ _ ho⟩)
      · exact .inr (.inr ⟨sa, n, z, hk _ _ ho, hn⟩)
  · obtain ⟨h1, u, h2, h3⟩ := r.mu a m e
    refine ⟨?_, u, hk _ _ h2, RepM.mono ex m u h3⟩
    show (if a ∈ as then H' a else S a) = none
    rw [if_neg (nin a u h2)]
    exact h1
  · obtain ⟨h1, h2, h3⟩ := r.tb.t z hz
    obtain ⟨ps, e, _⟩ := id h3
    refine ⟨?_, h2, h3.ext hk⟩
    show (if z.1 ∈ as then H' z.1 else S z.1) = none
    rw [if_neg (nin _ _ e)]
    exact h1
  · have e : (if a ∈ as then H' a else S a) = some u := e
    by_cases h : a ∈ as
    · exact .inr (.inl (ha a h).1)
    · rw [if_neg h] at e; exact .inl e
def kD : Key → D
  | .inl i => .int i
  | .inr z => .str z
theorem rep_kD {S : Hp} (k : Key) : Rep K S (kD k) (kV k) := by cases k <;> rfl
def itemD (p : Key × D) : D := .tup [kD p.1, p.2]
theorem rep_items {S S' : Hp} {H' : Hp} (hS : Ex S S') : ∀ {l : List (Key × D)} {vs : List (Key × V)} {ts : List Addr}, RepK K S l vs → Paired (fun (t : Addr) (q : Key × V) => H' t = some (.tup [kV q.1, q.2])) ts vs → (∀ t ∈ ts, S' t = H' t) → RepL K S' (l.map itemD) (ts.map V.ref)
  | [], vs, ts, h, p, hs => by
    have h : vs = [] := h
    subst h
    cases p
    rfl
  | (k, d) :: l, vs, ts, h, p, hs => by
    obtain ⟨v, r, rfl, h1, h2⟩ := h
    cases p with
    | @cons t _ ts _ e p =>
      refine ⟨.ref t, ts.map V.ref, rfl, ⟨t, _, rfl, (by rw [hs t (by simp)]; exact e), _, _, rfl, rep_kD k, RepL.one (Rep.mono hS _ _ h1)⟩, ?_⟩
      exact rep_items hS h2 p fun t' ht => hs t' (List.mem_cons_of_mem _ ht)
def dItems (de : DE) : DE := fun δ μ Q => de δ μ fun x δ1 μ1 => ∃ p l, x = .ref p ∧ μ1 p = some (.dct l) ∧ Q (.lst (l.map itemD)) δ1 μ1
theorem d_items {e : Expr} {te : TE} {de : DE} {p apos cpos pos : Pos} (hc : X.calm = true) (hm : X.mg "list" = none) (he : PD K Z X e te de) (hg : Gl X "list" := by rfl) (hbase : attributeBase e "items" X.env (eval e X.env) = eval e X.env := by rfl) (hline : (apos.endLine == cpos.line) = true := by rfl)
    (hs : starEach [.Call (.Attribute e "items" apos) [] [] cpos] X.env = (false, eval (.Call (.Attribute e "items" apos) [] [] cpos) X.env) :: starEach [] X.env := by rfl) :
    PD K Z X (.Call (.Name "list" p) [.Call (.Attribute e "items" apos) [] [] cpos] [] pos) (LiI.tListItems te) (dItems de) := ⟨LiI.pe_listItems hc he.p hg hm (by decide +kernel) hbase hline hs, fun B hB S μ H σ δ Q QD rl k q => by
  refine he.s B hB S μ H σ δ _ _ rl (fun S1 μ1 H1 δ1 x dx e1 r1 hx q1 => ?_) q
  obtain ⟨pp, l, rfl, hm, q1⟩ := q1
  have hx : x = .ref pp := hx
  subst hx
  obtain ⟨_, o, h1, vs, rfl, h2⟩ := r1.r3.mu pp _ hm
  refine ⟨pp, vs, rfl, h1, fun H' p ts hk hp hts hpt hl hpr => ?_⟩
  have tsn : ∀ t ∈ ts, ∃ o, H' t = some o ∧ notMet o := by
    have : ∀ {ts : List Addr} {vs : List (Key × V)}, Paired (fun (t : Addr) (q : Key × V) => H' t = some (.tup [kV q.1, q.2])) ts vs → ∀ t ∈ ts, ∃ o, H' t = some o ∧ notMet o := by
      intro ts vs h
      induction h with
      | nil => intro t ht; cases ht
      | cons e _ ih =>
        intro t ht
        rcases List.mem_cons.mp ht with rfl | ht
        · exact ⟨_, e, trivial⟩
        · exact ih t ht
    exact this hpr
  obtain ⟨r2, g⟩ := r1.r3.lay (p :: ts) hk fun a ha => by
    rcases List.mem_cons.mp ha with rfl | ha
    · exact ⟨hp, _, hl, trivial⟩
    · exact ⟨hts a ha, tsn a ha⟩
  refine k _ μ1 H' δ1 _ (.lst (l.map itemD)) (e1.trans g.ex) (r1.grow g r2) ⟨p, _, rfl, ?_, rep_items g.ex h2 hpr fun t ht => if_pos (List.mem_cons_of_mem _ ht)⟩ q1
  show (if p ∈ p :: ts then H' p else S1 p) = _
  rw [if_pos List.mem_cons_self]
  exact hl⟩
/-! ### sorted(list of data) -/
theorem dp_each {pins : List (Addr × Obj)} {σ : L2.St} {H : Hp} {s : Shared} (I : Inv X pins σ H s) : ∀ {bs : List (V × PyData)} {its : List Value}, Vals (bs.map (·.1)) its → (∀ b ∈ bs, Dp X.K H b.1 b.2) → PySem.W.EachIs (fun v (b : V × PyData) => RelV b.1 v) its bs ∧ PySem.W.EachIs (fun v (b : V × PyData) => ∃ as, Reads s.heap v b.2 as) its bs
  | [], _, r, _ => by cases r; exact ⟨.nil, .nil⟩
  | b :: bs, _, r, h => by
    cases r with
    | cons r1 r2 =>
      obtain ⟨a1, a2⟩ := dp_each I r2 fun x hx => h x (List.mem_cons_of_mem _ hx)
      exact ⟨.cons r1 a1, .cons (Dp.reads I b.2 b.1 _ (h b List.mem_cons_self) r1) a2⟩
theorem each_vals : ∀ {bs : List (V × PyData)} {its : List Value}, PySem.W.EachIs (fun v (b : V × PyData) => RelV b.1 v) its bs → Vals (bs.map (·.1)) its
  | _, _, .nil => .nil
  | _, _, .cons h t => .cons h (each_vals t)
def rSortD (K : PySem.W.Frag) : List V → Hp → VK → Prop := fun xs H Q => ∃ (a : Addr) (bs : List (V × PyData)), xs = [.ref a] ∧ SqL K H a (bs.map (·.1)) ∧ (∀ b ∈ bs, Dp K H b.1 b.2) ∧ PySem.W.AllAlike (bs.map (·.2)) ∧ PySem.W.Sortable (bs.map (·.2)) ∧ (∀ b ∈ bs, b.2.depth ≤ 40) ∧ bs.length ≤ sizeLine ∧
  ∀ p, H p = none → Q (.ref p) (upd H p (.lst ((bs.mergeSort (PySem.W.dataLe false (·.2))).map (·.1))))
theorem call_sortD (hu : X.A.units + 64 < cLine) : CallR X (.builtin "sorted") (rSortD X.K) := by
  intro pins s σ H vs us Q I r h
  obtain ⟨a, bs, rfl, hs, hd, h1, h2, h3, hL, q⟩ := h
  obtain ⟨its, rv, hl, hz⟩ := I.list hs
  rw [Vals.ref1 r]
  obtain ⟨e, er⟩ := dp_each I rv hd
  refine PySem.W.sorted_data (enc := fun b : V × PyData => b.2) hl.isList e er h1 h2 hL (fun b hb => by have := h3 b hb; omega) fun out ol oe => ?_
  obtain ⟨ep, he'⟩ := PyProof.Rows.sortedAll_at s.heap its out.toArray
  have hlen : ((bs.mergeSort (PySem.W.dataLe false (·.2))).map (·.1)).length ≤ sizeLine := by
    rw [List.length_map, List.length_mergeSort]
    exact hL
  exact ⟨.ref _, upd H (s.heap.objs.size + 1) (.lst ((bs.mergeSort (PySem.W.dataLe false (·.2))).map (·.1))), I.laid (t' := s.toks) (fun _ _ => PyProof.Rows.sortedAll_old) (Nat.le_succ _) ⟨hlen, out, ep, each_vals oe, he'⟩, rfl, q _ (I.hok.fresh (Nat.le_succ _))⟩
def rdSortD : DC := fun xs μ Q => ∃ (d : D) (ps : List (D × PyData)), xs = [d] ∧ lstOf μ d = some (ps.map (·.1)) ∧ (∀ p ∈ ps, pd p.1 = some p.2) ∧ PySem.W.AllAlike (ps.map (·.2)) ∧ PySem.W.Sortable (ps.map (·.2)) ∧ (∀ p ∈ ps, p.2.depth ≤ 40) ∧ ps.length ≤ sizeLine ∧ Q (.lst ((ps.mergeSort (PySem.W.dataLe false (·.2))).map (·.1))) μ
theorem zip_rep {S : Hp} : ∀ {ps : List (D × PyData)} {vs : List V}, RepL K S (ps.map (·.1)) vs → ∃ ts : List ((D × PyData) × V), ts.map (·.1) = ps ∧ ts.map (·.2) = vs ∧ ∀ t ∈ ts, Rep K S t.1.1 t.2
  | [], vs, h => by
    have h : vs = [] := h
    subst h
    exact ⟨[], rfl, rfl, fun _ h => nomatch h⟩
  | p :: ps, vs, h => by
    obtain ⟨v, r, rfl, h1, h2⟩ := h
    obtain ⟨ts, e1, e2, h3⟩ := zip_rep h2
    refine ⟨(p, v) :: ts, by rw [List.map_cons, e1], by rw [List.map_cons, e2], fun t ht => ?_⟩
    rcases List.mem_cons.mp ht with rfl | ht
    · exact h1
    · exact h3 t ht
theorem rep_zip {S : Hp} : ∀ {ts : List ((D × PyData) × V)}, (∀ t ∈ ts, Rep K S t.1.1 t.2) → RepL K S (ts.map (·.1.1)) (ts.map (·.2))
  | [], _ => rfl
  | t :: ts, h => ⟨_, _, rfl, h t List.mem_cons_self, rep_zip fun x hx => h x (List.mem_cons_of_mem _ hx)⟩
theorem c_sortD (hu : X.A.units + 64 < cLine) (hk : X.K = K := by rfl) : PDC K X (.builtin "sorted") (rSortD K) rdSortD := by
  subst hk
  exact ⟨call_sortD hu, fun S μ H xs ds Q QD r hx k q => by
    obtain ⟨d, ps, rfl, hl, h1, h2, h3, h4, h5, q⟩ := q
    obtain ⟨v, rfl, hv⟩ := RepL.one' hx
    obtain ⟨a, vs, rfl, hs, hr⟩ := lst_is r hv hl
    obtain ⟨ts, rfl, rfl, ht⟩ := zip_rep hr
    have e1 : (ts.map (fun t => (t.2, t.1.2))).map (fun b : V × PyData => b.1) = ts.map (·.2) := by rw [List.map_map]; rfl
    have e2 : (ts.map (fun t => (t.2, t.1.2))).map (fun b : V × PyData => b.2) = (ts.map (·.1)).map (fun p : D × PyData => p.2) := by rw [List.map_map, List.map_map]; rfl
    refine ⟨a, ts.map (fun t => (t.2, t.1.2)), rfl, by rw [e1]; exact hs, fun b hb => ?_, by rw [e2]; exact h2, by rw [e2]; exact h3, fun b hb => ?_, by rw [List.length_map]; rw [List.length_map] at h5; exact h5, fun p hp => ?_⟩
    · obtain ⟨t, ht', rfl⟩ := List.mem_map.mp hb
      exact dp_of r.ex _ _ _ (ht t ht') (h1 t.1 (List.mem_map.mpr ⟨t, ht', rfl⟩))
    · obtain ⟨t, ht', rfl⟩ := List.mem_map.mp hb
      exact h4 t.1 (List.mem_map.mpr ⟨t, ht', rfl⟩)
    · have m1 : (ts.mergeSort (fun a b => PySem.W.dataLe false (fun t : (D × PyData) × V => t.1.2) a b)).map (fun t => (t.2, t.1.2)) = (ts.map (fun t => (t.2, t.1.2))).mergeSort (PySem.W.dataLe false (fun b : V × PyData => b.2)) := List.map_mergeSort fun _ _ _ _ => rfl
      have m2 : (ts.mergeSort (fun a b => PySem.W.dataLe false (fun t : (D × PyData) × V => t.1.2) a b)).map (·.1) = (ts.map (·.1)).mergeSort (PySem.W.dataLe false (fun p : D × PyData => p.2)) := List.map_mergeSort fun _ _ _ _ => rfl
      rw [← m1, List.map_map]
      rw [← m2, List.map_map] at q
      have hm : ∀ t ∈ ts.mergeSort (fun a b => PySem.W.dataLe false (fun t : (D × PyData) × V => t.1.2) a b), Rep X.K S t.1.1 t.2 := fun t h => ht t (List.mem_mergeSort.mp h)
      obtain ⟨r2, g⟩ := r.alloc (o := .lst ((ts.mergeSort (fun a b => PySem.W.dataLe false (fun t : (D × PyData) × V => t.1.2) a b)).map (·.2))) hp
      exact k _ μ _ _ (.lst ((ts.mergeSort (fun a b => PySem.W.dataLe false (fun t : (D × PyData) × V => t.1.2) a b)).map (·.1.1))) g r2 ⟨p, _, rfl, upd_same, RepL.mono g.ex _ _ (rep_zip hm)⟩ q⟩
/-! ### list(d), dict(d) -/
def rdListD : DC := fun xs μ Q => ∃ (d : D) (l : List (Key × D)), xs = [d] ∧ dicOf μ d = some l ∧ Q (.lst (l.map fun kv => kD kv.1)) μ
theorem rep_keys {S : Hp} : ∀ {l : List (Key × D)} {vs : List (Key × V)}, RepK K S l vs → RepL K S (l.map fun kv => kD kv.1) (vs.map fun kv => kV kv.1)
  | [], vs, h => by
    have h : vs = [] := h
    subst h
    rfl
  | (k, d) :: l, vs, h => by
    obtain ⟨v, r, rfl, _, h2⟩ := h
    exact ⟨_, _, rfl, rep_kD k, rep_keys h2⟩
theorem c_listD (hc : X.calm = true) : PDC K X (.type "list") (fun xs H Q => ∃ (a : Addr) (kvs : List (Key × V)), xs = [.ref a] ∧ Rd H a (.dK kvs) ∧ ∀ p, H p = none → Q (.ref p) (upd H p (.lst (kvs.map fun kv => kV kv.1)))) rdListD :=
  ⟨call_listD hc, fun S μ H xs ds Q QD r hx k q => by
    obtain ⟨d, l, rfl, h1, q⟩ := q
    obtain ⟨v, rfl, hv⟩ := RepL.one' hx
    obtain ⟨a, vs, rfl, h4, h5⟩ := dic_is r hv h1
    refine ⟨a, vs, rfl, h4, fun p hp => ?_⟩
    obtain ⟨r2, g⟩ := r.alloc (o := .lst (vs.map fun kv => kV kv.1)) hp
    exact k _ μ _ _ (.lst (l.map fun kv => kD kv.1)) g r2 ⟨p, _, rfl, upd_same, RepL.mono g.ex _ _ (rep_keys h5)⟩ q⟩
/-! ### l.index(x) -/
def dIndex (do_ de : DE) : DE := fun δ μ Q => do_ δ μ fun x δ1 μ1 => (∃ l, lstOf μ1 x = some l) ∧ de δ1 μ1 fun y δ2 μ2 => ∃ l ps p j z, lstOf μ2 x = some l ∧ pds l = some ps ∧ pd y = some p ∧ SeqAt.shaped (.list ps) = true ∧ SeqAt.shaped p = true ∧ ps[j]? = some z ∧ PyData.eqv z p = true ∧ (∀ (m : Nat) (z' : PyData), m < j → ps[m]? = some z' → PyData.eqv z' p = false) ∧ Q (.int (j : Nat)) δ2 μ2
theorem d_index {o e : Expr} {apos cpos : Pos} {to te : TE} {do_ de : DE} (hu : X.A.units + 65 < cLine) (ho : PD K Z X o to do_) (he : PD K Z X e te de) (hbase : attributeBase o "index" X.env (eval o X.env) = eval o X.env := by rfl)
    (hfew : ((backTo cpos (starEach [e] X.env)).all (fun x => !x.1) && (backToKw cpos (keywordEach [] X.env)).all (fun x => x.1.isSome) && decide ([e].length + ([] : List Keyword).length + (if ([] : List Keyword).isEmpty then 0 else 1) < 30)) = true := by rfl)
    (hline : (apos.endLine == cpos.line) = true := by rfl) (hs : starEach [e] X.env = (false, eval e X.env) :: starEach [] X.env := by rfl) (hplain : (backTo cpos (starEach [] X.env)).any (·.1) = false := by rfl) (hk : X.K = K := by rfl) :
    PD K Z X (.Call (.Attribute o "index" apos) [e] [] cpos) (tBM K "list" (rIndexD K) to (tCons te tNil)) (dIndex do_ de) := by
  subst hk
  refine ⟨pe_bm PySem.F.plainAttrs_list PySem.F.slot_list_index PySem.F.type_list_index (mt_indexD hu) ho.p (pa_cons he.p pa_nil hs) hbase hfew hline hs hplain, fun B hB S μ H σ δ Q QD rl k q => ?_⟩
  refine ho.s B hB S μ H σ δ _ _ rl (fun S1 μ1 H1 δ1 x dx e1 r1 hx q1 => ?_) q
  obtain ⟨⟨l0, hl0⟩, q1⟩ := q1
  obtain ⟨a, vs0, rfl, hs0, _⟩ := lst_is r1.r3 hx hl0
  refine ⟨.inl ⟨rfl, vs0, hs0⟩, ?_⟩
  refine he.s B hB S1 μ1 H1 σ δ1 _ _ r1 (fun S2 μ2 H2 δ2 y dy e2 r2 hy q2 => ?_) q1
  obtain ⟨l, ps, p, j, z, h1, h2, h3, h4, h5, h6, h7, h8, q2⟩ := q2
  obtain ⟨a', vs, ea, hs1, hr⟩ := lst_is r2.r3 (Rep.mono e2 _ _ hx) h1
  cases ea
  exact ⟨a, y, p, ps, j, z, rfl, rfl, .lst hs1 (dps_of r2.r3.ex l vs ps hr h2), dp_of r2.r3.ex _ _ _ hy h3, h4, h5, h6, h7, h8, k S2 μ2 H2 δ2 _ (.int (j : Nat)) (e1.trans e2) r2 rfl q2⟩
end Dl

namespace Dl
open PySem PySem.Spec PyProof.Rows L2
variable {X : Cx} {K : PySem.W.Frag} {Z : Bs}
/-! ### isinstance of a cell -/
def tyM (μ : Mem) : D → Option String
  | .ref p => match μ p with
    | some (.lst _) => some "list"
    | _ => none
  | d => tyD d
def rdIsiM : DC := fun xs μ Q => ∃ x T t b, xs = [x, .ty T] ∧ tyM μ x = some t ∧ kitB t T = some b ∧ Q (.bl b) μ
theorem c_isiM (hk : X.K = K := by rfl) : PDC K X (.builtin "isinstance") (rIsi K) rdIsiM := by
  subst hk
  exact ⟨call_isi, fun S μ H xs ds Q QD r hx k q => by
  obtain ⟨x, T, t, b, rfl, ht, hk, q⟩ := q
  obtain ⟨v, w, rfl, h1, h2⟩ := RepL.two' hx
  have h2 : w = .ty T := h2
  subst h2
  have hx : TyX X.K H v (.type t) := by
    cases x with
    | ref p =>
      unfold tyM at ht
      dsimp only at ht
      split at ht
      · rename_i l e
        cases ht
        obtain ⟨_, o, g1, vs, rfl, g2⟩ := r.mu p _ e
        have h1 : v = .ref p := h1
        subst h1
        exact .base (.lst g1)
      · cases ht
    | _ => exact tyx_of r.ex h1 ht
  exact ⟨v, .ty T, .type t, .type T, b, rfl, .ty T, hx, kit_ty hk, k S μ H _ (.bl b) Grow.refl r rfl q⟩⟩
/-! ### a dict that is locked while it is walked -/
def dLock (ds : DS) : DS := fun DD δ μ => ∃ p l, μ p = some (.dct l) ∧ ∀ od kvs, ds ⟨fun δ' μ' => μ' p = some (.lck od kvs l) ∧ DD.nx δ' (updM μ' p (.dct l)), fun v μ' => μ' p = some (.lck od kvs l) ∧ DD.rt v (updM μ' p (.dct l)), fun δ' μ' => μ' p = some (.lck od kvs l) ∧ DD.bk δ' (updM μ' p (.dct l)), fun δ' μ' => μ' p = some (.lck od kvs l) ∧ DD.ct δ' (updM μ' p (.dct l))⟩ δ (updM μ p (.lck od kvs l))
theorem simLock {ts : TS} {ds : DS} (h : SimS K Z ts ds) : SimS K Z (tLock ts) (dLock ds) := fun B hB S μ H σ δ E DD rl lf q => by
  obtain ⟨p, l, hp, q⟩ := q
  obtain ⟨hs, o, h1, kvs, rfl, h2⟩ := rl.r3.mu p _ hp
  refine ⟨p, .dK kvs, h1, trivial, fun od => ?_⟩
  obtain ⟨r4, g⟩ := rl.r3.write hp (o := .frz od (.dK kvs)) (m := .lck od kvs l) ⟨rfl, h2⟩
  have back : ∀ {S' : Hp} {μ' : Mem} {H' : Hp}, R3 K S' μ' H' → μ' p = some (.lck od kvs l) → H' p = some (.frz od (.dK kvs)) ∧ R3 K S' (updM μ' p (.dct l)) (upd H' p (.dK kvs)) ∧ Grow S' μ' H' S' (updM μ' p (.dct l)) (upd H' p (.dK kvs)) := fun {S' μ' H'} r hm => by
    obtain ⟨hs', o, g1, rfl, g2⟩ := r.mu p _ hm
    obtain ⟨r5, g5⟩ := r.write hm (o := .dK kvs) (m := .dct l) ⟨_, rfl, g2⟩
    exact ⟨g1, r5, g5⟩
  refine h B hB S _ _ σ δ _ _ (rl.grow g r4) ⟨fun S' μ' H' σ' δ' r w => ?_, fun S' μ' H' v d r gr hv w => ?_, fun S' μ' H' σ' δ' r w => ?_, fun S' μ' H' σ' δ' r w => ?_⟩ (q od kvs)
  · obtain ⟨b1, b2, b3⟩ := back r.r3 w.1
    exact ⟨b1, lf.nx S' _ _ σ' δ' (r.grow b3 b2) w.2⟩
  · obtain ⟨b1, b2, b3⟩ := back r w.1
    exact ⟨b1, lf.rt S' _ _ v d b2 (gr.trans b3) hv w.2⟩
  · obtain ⟨b1, b2, b3⟩ := back r.r3 w.1
    exact ⟨b1, lf.bk S' _ _ σ' δ' (r.grow b3 b2) w.2⟩
  · obtain ⟨b1, b2, b3⟩ := back r.r3 w.1
    exact ⟨b1, lf.ct S' _ _ σ' δ' (r.grow b3 b2) w.2⟩
theorem s_lock {st : Stmt} {ts : TS} {ds : DS} (h : PDS K Z X st ts ds) : PDS K Z X st (tLock ts) (dLock ds) := ⟨ps_lock h.p, simLock h.s⟩
theorem RepK.get {S : Hp} : ∀ {l : List (Key × D)} {vs : List (Key × V)} {i : Nat} {p : Key × D}, RepK K S l vs → l[i]? = some p → ∃ v, vs[i]? = some (p.1, v) ∧ Rep K S p.2 v
  | [], _, _, _, _, e => by simp at e
  | (k, d) :: l, vs, 0, p, h, e => by
    obtain ⟨v, r, rfl, h1, h2⟩ := h
    have e : (k, d) = p := by simpa using e
    subst e
    exact ⟨v, rfl, h1⟩
  | (k, d) :: l, vs, i + 1, p, h, e => by
    obtain ⟨v, r, rfl, h1, h2⟩ := h
    have e : l[i]? = some p := by simpa using e
    obtain ⟨u, e1, h3⟩ := RepK.get h2 e
    exact ⟨u, by simpa using e1, h3⟩
def diItems (de : DE) : DI := fun δ μ Q => de δ μ fun x δ1 μ1 => ∃ p od kvs l, x = .ref p ∧ μ1 p = some (.lck od kvs l) ∧ Q (l.map itemD) (fun μ => μ p = some (.lck od kvs l)) δ1 μ1
theorem wk_items {S : Hp} {p : Addr} {od : Obj} {kvs : List (Key × V)} {l : List (Key × D)} : Wk K S (Iti p od kvs) (l.map itemD) (fun μ => μ p = some (.lck od kvs l)) where
  goes := fun S' μ H i e r g hi => by
    obtain ⟨_, o, h1, rfl, h2⟩ := r.mu p _ g
    exact ⟨h1, by rw [RepK.len h2]; simpa using hi⟩
  stops := fun S' μ H e r g => by
    obtain ⟨_, o, h1, rfl, h2⟩ := r.mu p _ g
    exact ⟨h1, by rw [RepK.len h2, List.length_map]; exact Nat.le_refl _⟩
  yields := fun S' μ H i d x H' e r g hd y => by
    obtain ⟨_, o, h1, rfl, h2⟩ := r.mu p _ g
    obtain ⟨T, k, v, hk, rfl, hT, rfl⟩ := y
    rw [List.getElem?_map] at hd
    cases e1 : l[i]? with
    | none => rw [e1] at hd; cases hd
    | some q =>
      rw [e1] at hd
      cases hd
      obtain ⟨u, e2, hu⟩ := RepK.get h2 e1
      rw [e2] at hk
      cases hk
      obtain ⟨r4, gg⟩ := r.alloc (o := .tup [kV q.1, v]) hT
      exact ⟨_, gg, r4, T, _, rfl, upd_same, _, _, rfl, rep_kD _, RepL.one (Rep.mono gg.ex _ _ hu)⟩
theorem i_items {e : Expr} {elts : List Expr} {kk : Nat} {tpos apos cpos : Pos} {te : TE} {de : DE} (h : PD K Z X e te de) (hbase : attributeBase e "items" X.env (eval e X.env) = eval e X.env := by rfl) (hline : (apos.endLine == cpos.line) = true := by rfl) :
    PDI K Z X (.Tuple elts kk tpos) (.Call (.Attribute e "items" apos) [] [] cpos) (iItems te) (diItems de) :=
  ⟨pi_items h.p hbase hline, fun B hB S μ H σ δ Q QD rl k q => by
    refine h.s B hB S μ H σ δ _ _ rl (fun S1 μ1 H1 δ1 v d e1 r1 hv q1 => ?_) q
    obtain ⟨p, od, kvs, l, rfl, hm, q1⟩ := q1
    obtain ⟨_, o, h1, rfl, h2⟩ := r1.r3.mu p _ hm
    exact ⟨p, od, kvs, hv, h1, k S1 μ1 H1 δ1 _ _ _ e1 r1 wk_items q1⟩⟩
/-! ### .. its values -/
def diVals (de : DE) : DI := fun δ μ Q => de δ μ fun x δ1 μ1 => ∃ p od kvs l, x = .ref p ∧ μ1 p = some (.lck od kvs l) ∧ Q (l.map (·.2)) (fun μ => μ p = some (.lck od kvs l)) δ1 μ1
theorem wk_vals {S : Hp} {p : Addr} {od : Obj} {kvs : List (Key × V)} {l : List (Key × D)} : Wk K S (Itd p od kvs) (l.map (·.2)) (fun μ => μ p = some (.lck od kvs l)) where
  goes := fun S' μ H i e r g hi => by
    obtain ⟨_, o, h1, rfl, h2⟩ := r.mu p _ g
    exact ⟨h1, by rw [RepK.len h2]; simpa using hi⟩
  stops := fun S' μ H e r g => by
    obtain ⟨_, o, h1, rfl, h2⟩ := r.mu p _ g
    exact ⟨h1, by rw [RepK.len h2, List.length_map]; exact Nat.le_refl _⟩
  yields := fun S' μ H i d x H' e r g hd y => by
    obtain ⟨_, o, h1, rfl, h2⟩ := r.mu p _ g
    obtain ⟨rfl, k, hk⟩ := y
    rw [List.getElem?_map] at hd
    cases e1 : l[i]? with
    | none => rw [e1] at hd; cases hd
    | some q =>
      rw [e1] at hd
      cases hd
      obtain ⟨u, e2, hu⟩ := RepK.get h2 e1
      rw [e2] at hk
      cases hk
      exact ⟨S', Grow.refl, r, hu⟩
theorem i_vals {tg e : Expr} {apos cpos : Pos} {te : TE} {de : DE} (h : PD K Z X e te de) (hbase : attributeBase e "values" X.env (eval e X.env) = eval e X.env := by rfl) (hline : (apos.endLine == cpos.line) = true := by rfl) :
    PDI K Z X tg (.Call (.Attribute e "values" apos) [] [] cpos) (iVals te) (diVals de) :=
  ⟨pi_values h.p hbase hline, fun B hB S μ H σ δ Q QD rl k q => by
    refine h.s B hB S μ H σ δ _ _ rl (fun S1 μ1 H1 δ1 v d e1 r1 hv q1 => ?_) q
    obtain ⟨p, od, kvs, l, rfl, hm, q1⟩ := q1
    obtain ⟨_, o, h1, rfl, h2⟩ := r1.r3.mu p _ hm
    exact ⟨p, od, kvs, hv, h1, k S1 μ1 H1 δ1 _ _ _ e1 r1 wk_vals q1⟩⟩
/-! ### .. its keys -/
def diKeys (de : DE) : DI := fun δ μ Q => de δ μ fun x δ1 μ1 => ∃ p od kvs l, x = .ref p ∧ μ1 p = some (.lck od kvs l) ∧ Q (l.map fun q => kD q.1) (fun μ => μ p = some (.lck od kvs l)) δ1 μ1
theorem wk_keys {S : Hp} {p : Addr} {od : Obj} {kvs : List (Key × V)} {l : List (Key × D)} : Wk K S (Itk p od kvs) (l.map fun q => kD q.1) (fun μ => μ p = some (.lck od kvs l)) where
  goes := fun S' μ H i e r g hi => by
    obtain ⟨_, o, h1, rfl, h2⟩ := r.mu p _ g
    exact ⟨h1, by rw [RepK.len h2]; simpa using hi⟩
  stops := fun S' μ H e r g => by
    obtain ⟨_, o, h1, rfl, h2⟩ := r.mu p _ g
    exact ⟨h1, by rw [RepK.len h2, List.length_map]; exact Nat.le_refl _⟩
  yields := fun S' μ H i d x H' e r g hd y => by
    obtain ⟨_, o, h1, rfl, h2⟩ := r.mu p _ g
    obtain ⟨rfl, k, v, hk, rfl⟩ := y
    rw [List.getElem?_map] at hd
    cases e1 : l[i]? with
    | none => rw [e1] at hd; cases hd
    | some q =>
      rw [e1] at hd
      cases hd
      obtain ⟨u, e2, hu⟩ := RepK.get h2 e1
      rw [e2] at hk
      cases hk
      exact ⟨S', Grow.refl, r, rep_kD _⟩
theorem i_keys {tg e : Expr} {te : TE} {de : DE} (h : PD K Z X e te de) : PDI K Z X tg e (iKeys te) (diKeys de) :=
  ⟨pi_keys h.p, fun B hB S μ H σ δ Q QD rl k q => by
    refine h.s B hB S μ H σ δ _ _ rl (fun S1 μ1 H1 δ1 v d e1 r1 hv q1 => ?_) q
    obtain ⟨p, od, kvs, l, rfl, hm, q1⟩ := q1
    obtain ⟨_, o, h1, rfl, h2⟩ := r1.r3.mu p _ hm
    exact ⟨p, od, hv, .inl ⟨kvs, h1, k S1 μ1 H1 δ1 _ _ _ e1 r1 wk_keys q1⟩⟩⟩
/-! ### dict(d) -/
def rCopyD : List V → Hp → VK → Prop := fun xs H Q => ∃ (a : Addr) (kvs : List (Key × V)), xs = [.ref a] ∧ Rd H a (.dK kvs) ∧ ∀ p, H p = none → Q (.ref p) (upd H p (.dK kvs))
theorem call_copyD : CallR X (.type "dict") rCopyD := by
  intro pins s σ H xs us Q I hr h
  obtain ⟨a, kvs, rfl, hd, q⟩ := h
  cases hr with
  | cons h1 h2 =>
    cases h2
    cases (show _ = Value.ref a from h1)
    exact d_copyOf I hd fun p s' hp I' => ⟨.ref p, _, I', rfl, q p hp⟩
def rdCopyD : DC := fun xs μ Q => ∃ x l, xs = [x] ∧ dicOf μ x = some l ∧ ∀ p, μ p = none → Q (.ref p) (updM μ p (.dct l))
theorem c_copyD : PDC K X (.type "dict") rCopyD rdCopyD :=
  ⟨call_copyD, fun S μ H xs ds Q QD r hx k q => by
    obtain ⟨x, l, rfl, e, q⟩ := q
    obtain ⟨v, rfl, hv⟩ := RepL.one' hx
    obtain ⟨a, vs, rfl, h1, h2⟩ := dic_is r hv e
    refine ⟨a, vs, rfl, h1, fun p hp => ?_⟩
    obtain ⟨r4, g⟩ := r.cell (o := .dK vs) (m := .dct l) hp ⟨vs, rfl, h2⟩
    exact k S _ _ _ (.ref p) g r4 rfl (q p (r.free hp).2)⟩
/-! ### x -= e -/
theorem s_augSub {i : Nat} {x : Str} {e : Expr} {pos pos' : Pos} {te : TE} {de : DE} (hN : X.N.Nodup) (he : PD K Z X e te de) (hi : X.N[i]? = some x := by rfl) (hx : Loc X.env.scope x := by first | exact Or.inl rfl | exact Or.inr rfl) (hf : X.fn x = true ∨ X.env.scope.names.lookup x = some .local := by first | exact .inl rfl | exact .inr rfl | assumption) :
    PDS K Z X (.AugAssign (.Name x pos') .Sub e pos) (tAug i te (ipI fun i j => i - j)) (dAug i de fun i j => i - j) := ⟨ps_aug hN hi hx he.p ip_sub hf, simAug he.s⟩
end Dl

namespace Dl
open PySem PySem.Spec PyProof.Rows L2
variable {X : Cx} {K : PySem.W.Frag} {Z : Bs}
/-! ### k in d -/
def rInK (neg : Bool) : R2 := fun y x H Q => ∃ (a : Addr) (kvs : List (Key × V)) (k : Key), x = .ref a ∧ y = kV k ∧ Rd H a (.dK kvs) ∧ Q (.bl (if neg then !(valV kvs k).isSome else (valV kvs k).isSome)) H
theorem op_inK (hu : X.A.units + 1 < cLine) : OpR X (compareOp .In) (rInK false) := by
  intro pins s σ H y x v u Q I ry rx h
  obtain ⟨a, kvs, k, rfl, rfl, hd, q⟩ := h
  obtain rfl : u = Value.ref a := rx
  exact d_in hu I (.inl ⟨kvs, k, hd, rfl, rfl⟩) ry fun s' I' => ⟨.bl _, H, I', rfl, q⟩
theorem op_notInK (hu : X.A.units + 1 < cLine) : OpR X (compareOp .NotIn) (rInK true) := by
  intro pins s σ H y x v u Q I ry rx h
  obtain ⟨a, kvs, k, rfl, rfl, hd, q⟩ := h
  obtain rfl : u = Value.ref a := rx
  exact d_notIn hu I (.inl ⟨kvs, k, hd, rfl, rfl⟩) ry fun s' I' => ⟨.bl _, H, I', rfl, q⟩
def rdInK (neg : Bool) : DR := fun y x μ Q => ∃ l k, dicOf μ x = some l ∧ keyD y = some k ∧ Q (.bl (if neg then !(valD l k).isSome else (valD l k).isSome)) μ
theorem val_some {S : Hp} {l : List (Key × D)} {vs : List (Key × V)} {k : Key} (h : RepK K S l vs) : (valV vs k).isSome = (valD l k).isSome := by
  obtain ⟨v1, v2⟩ := RepK.val (k := k) h
  cases e : valD l k with
  | none => rw [v2 e]; rfl
  | some d => obtain ⟨v, e1, _⟩ := v1 d e; rw [e1]; rfl
theorem sim_inK {neg : Bool} : SimR K (rInK neg) (rdInK neg) := fun S μ H y x dy dx Q QD r hy hx k q => by
  obtain ⟨l, kk, e, ek, q⟩ := q
  obtain ⟨a, vs, rfl, h1, h2⟩ := dic_is r hx e
  exact ⟨a, vs, kk, rfl, key_v hy ek, h1, k S μ H _ (.bl (if neg then !(valD l kk).isSome else (valD l kk).isSome)) Grow.refl r (by rw [val_some h2]; rfl) q⟩
theorem o_inK (hu : X.A.units + 1 < cLine) : PDOp K X (compareOp .In) (rInK false) (rdInK false) := ⟨op_inK hu, sim_inK⟩
theorem o_notInK (hu : X.A.units + 1 < cLine) : PDOp K X (compareOp .NotIn) (rInK true) (rdInK true) := ⟨op_notInK hu, sim_inK⟩
/-! ### min(list of data) -/
section
variable {prog : Program} {w : World} {A : Around} {E : Value → Shared → Prop} {s : Shared}
theorem min_list_at {l : Addr} {vs : Array Value} {x : PyData} {xs : List PyData} {as : List Addr} {Q : Value → Shared → Prop} (hh : A.handled = none) (hl : s.heap.IsList l vs) (hr : ReadsAll s.heap vs.toList (x :: xs) as) (ha : PySem.W.AlikeAll (x :: xs)) (hu : A.units + 1 + PyData.depthAll (x :: xs) < cLine)
    (h : ∀ (i : Nat) v h' tk, vs[i]? = some v → (x :: xs).getD i .none = PySem.W.minD x xs → (∀ b o, s.heap.get? b = some o → h'.get? b = some o) → Q v { s with heap := h', toks := tk }) :
    wpAny (model prog w) A (call (.builtin "min") [.ref l]) Q E s := by
  have hn : vs.size = xs.length + 1 := PySem.W.readsAll_len hr
  refine PySem.call_min_walkH (PySem.W.iter_listW (A := A.in1) hh hl fun s₂ e W st hfp hw hk => ?_)
  refine ⟨_, _, _, _, _, _, _, s.heap, _, rfl, W, st, hfp, by omega, hw, hk, PySem.W.cmpIn_lt (A := A.in1) hr ha (by show A.units + 1 + _ < _; exact hu), fun v s' hP m => ?_⟩
  obtain ⟨h', tk, rfl, hk'⟩ := PySem.W.moved_old e rfl m
  have e1 : vs.size - 1 = xs.length := by omega
  have e2 := (PySem.W.argBest_fold PySem.W.dataLt PyData.none x xs xs.length (Nat.le_refl _)).2
  rw [List.take_length] at e2
  rw [e1] at hP
  exact h _ v h' tk hP e2 hk'
end
theorem readsAll_of {h : Heap} : ∀ {its : List Value} {bs : List (V × PyData)}, PySem.W.EachIs (fun v (b : V × PyData) => ∃ as, Reads h v b.2 as) its bs → ∃ as, ReadsAll h its (bs.map (·.2)) as
  | _, _, .nil => ⟨_, .nil⟩
  | _, _, .cons h t => by
    obtain ⟨as, h⟩ := h
    obtain ⟨bs, t⟩ := readsAll_of t
    exact ⟨_, .cons h t⟩
theorem depthAll_le {n : Nat} : ∀ {xs : List PyData}, (∀ x ∈ xs, x.depth ≤ n) → PyData.depthAll xs ≤ n
  | [], _ => by simp [PyData.depthAll]
  | x :: xs, h => by
    have h1 := h x List.mem_cons_self
    have h2 := depthAll_le fun y hy => h y (List.mem_cons_of_mem _ hy)
    simp only [PyData.depthAll]
    omega
def rMinD (K : PySem.W.Frag) : List V → Hp → VK → Prop := fun xs H Q => ∃ (a : Addr) (b : V × PyData) (bs : List (V × PyData)), xs = [.ref a] ∧ SqL K H a ((b :: bs).map (·.1)) ∧ (∀ c ∈ b :: bs, Dp K H c.1 c.2) ∧ PySem.W.AlikeAll ((b :: bs).map (·.2)) ∧ (∀ c ∈ b :: bs, c.2.depth ≤ 40) ∧
  ∀ c ∈ b :: bs, c.2 = PySem.W.minD b.2 (bs.map (·.2)) → Q c.1 H
theorem each_get {R : Value → V × PyData → Prop} : ∀ {its : List Value} {bs : List (V × PyData)} {i : Nat} {v : Value}, PySem.W.EachIs R its bs → its[i]? = some v → ∃ b, bs[i]? = some b ∧ R v b
  | _, _, _, _, .nil, e => by simp at e
  | _, _, 0, _, .cons h t, e => by
    simp at e
    subst e
    exact ⟨_, rfl, h⟩
  | _, _, i + 1, _, .cons h t, e => by
    simp at e
    obtain ⟨b, e1, h1⟩ := each_get t e
    exact ⟨b, by simpa using e1, h1⟩
theorem call_minD (hc : X.calm = true) (hu : X.A.units + 64 < cLine) : CallR X (.builtin "min") (rMinD X.K) := by
  intro pins s σ H vs us Q I r h
  obtain ⟨a, b, bs, rfl, hs, hd, h1, h3, q⟩ := h
  obtain ⟨its, rv, hl, hz⟩ := I.list hs
  rw [Vals.ref1 r]
  obtain ⟨e, er⟩ := dp_each I rv hd
  obtain ⟨as, hr⟩ := readsAll_of er
  have hdep : PyData.depthAll (b.2 :: bs.map (·.2)) ≤ 40 := depthAll_le fun x hx => by
    rcases List.mem_cons.mp hx with rfl | hx
    · exact h3 b List.mem_cons_self
    · obtain ⟨c, hc, rfl⟩ := List.mem_map.mp hx
      exact h3 c (List.mem_cons_of_mem _ hc)
  refine min_list_at (x := b.2) (xs := bs.map (·.2)) (I.ok.hd hc) hl.isList (by simpa using hr) (by simpa using h1) (by omega) fun i v h' tk hv he hk => ?_
  have hv : its[i]? = some v := by simpa using hv
  obtain ⟨c, hc1, hc2⟩ := each_get e hv
  have ec : c.2 = PySem.W.minD b.2 (bs.map (·.2)) := by
    rw [← he]
    have : (b.2 :: bs.map (·.2))[i]? = some c.2 := by
      have := congrArg (Option.map (·.2)) hc1
      rw [← List.getElem?_map] at this
      simpa using this
    rw [List.getD_eq_getElem?_getD, this]
    rfl
  exact ⟨c.1, H, I.kept (t' := tk) hk, hc2, q c (List.mem_of_getElem? hc1) ec⟩
def rdMinD : DC := fun xs μ Q => ∃ (d : D) (p : D × PyData) (ps : List (D × PyData)), xs = [d] ∧ lstOf μ d = some ((p :: ps).map (·.1)) ∧ (∀ c ∈ p :: ps, pd c.1 = some c.2) ∧ PySem.W.AlikeAll ((p :: ps).map (·.2)) ∧ (∀ c ∈ p :: ps, c.2.depth ≤ 40) ∧ ∀ c ∈ p :: ps, c.2 = PySem.W.minD p.2 (ps.map (·.2)) → Q c.1 μ
theorem c_minD (hc : X.calm = true) (hu : X.A.units + 64 < cLine) (hk : X.K = K := by rfl) : PDC K X (.builtin "min") (rMinD K) rdMinD := by
  subst hk
  exact ⟨call_minD hc hu, fun S μ H xs ds Q QD r hx k q => by
    obtain ⟨d, p, ps, rfl, hl, h1, h2, h4, q⟩ := q
    obtain ⟨v, rfl, hv⟩ := RepL.one' hx
    obtain ⟨a, vs, rfl, hs, hr⟩ := lst_is r hv hl
    obtain ⟨ts, et, rfl, ht⟩ := zip_rep hr
    cases ts with
    | nil => cases et
    | cons t ts =>
      rw [List.map_cons] at et
      obtain ⟨rfl, rfl⟩ := List.cons.inj et
      refine ⟨a, (t.2, t.1.2), ts.map (fun t => (t.2, t.1.2)), rfl, ?_, fun c hc' => ?_, ?_, fun c hc' => ?_, fun c hc' he => ?_⟩
      · rw [List.map_cons, List.map_map]; exact hs
      · obtain ⟨u, hu', rfl⟩ := List.mem_map.mp (show c ∈ (t :: ts).map (fun t => (t.2, t.1.2)) from hc')
        exact dp_of r.ex _ _ _ (ht u hu') (h1 u.1 (List.mem_map.mpr ⟨u, hu', rfl⟩))
      · have : ((t.2, t.1.2) :: ts.map (fun t : (D × PyData) × V => (t.2, t.1.2))).map (fun b : V × PyData => b.2) = (t.1 :: ts.map (·.1)).map (fun p : D × PyData => p.2) := by rw [List.map_cons, List.map_map, List.map_cons, List.map_map]; rfl
        rw [this]; exact h2
      · obtain ⟨u, hu', rfl⟩ := List.mem_map.mp (show c ∈ (t :: ts).map (fun t => (t.2, t.1.2)) from hc')
        exact h4 u.1 (List.mem_map.mpr ⟨u, hu', rfl⟩)
      · obtain ⟨u, hu', rfl⟩ := List.mem_map.mp (show c ∈ (t :: ts).map (fun t => (t.2, t.1.2)) from hc')
        refine k S μ H u.2 u.1.1 Grow.refl r (ht u hu') (q u.1 (List.mem_map.mpr ⟨u, hu', rfl⟩) ?_)
        rw [List.map_map] at he ⊢
        exact he⟩
/-! ### min(list of data, default=x) -/
section
variable {prog : Program} {w : World} {A : Around} {E : Value → Shared → Prop} {s : Shared}
theorem min_list_dfl {l : Addr} {vs : Array Value} {xs : List PyData} {as : List Addr} {d : Value} {Q : Value → Shared → Prop} (hh : A.handled = none) (hl : s.heap.IsList l vs) (hr : ReadsAll s.heap vs.toList xs as) (ha : PySem.W.AlikeAll xs) (hu : A.units + 1 + PyData.depthAll xs < cLine)
    (h0 : xs = [] → ∀ h' tk, (∀ b o, s.heap.get? b = some o → h'.get? b = some o) → Q d { s with heap := h', toks := tk })
    (h : ∀ (y : PyData) (ys : List PyData) (i : Nat) v h' tk, xs = y :: ys → vs[i]? = some v → xs.getD i .none = PySem.W.minD y ys → (∀ b o, s.heap.get? b = some o → h'.get? b = some o) → Q v { s with heap := h', toks := tk }) :
    wpAny (model prog w) A (call (.builtin "min") [.ref l] [(Str.ofString "default", d)]) Q E s := by
  have hn : vs.size = xs.length := PySem.W.readsAll_len hr
  refine PySem.call_min_walkD (PySem.W.iter_listW (A := A.in1) hh hl fun s₂ e W st hfp hw hk => ?_)
  refine ⟨_, _, _, _, _, _, _, s.heap, (fun i j => PySem.W.dataLt (xs.getD i .none) (xs.getD j .none)), rfl, W, st, hfp, hw, hk, fun hz s' m => ?_, fun hp => ⟨PySem.W.cmpIn_lt (A := A.in1) hr ha (by show A.units + 1 + _ < _; exact hu), fun v s' hP m => ?_⟩⟩
  · obtain ⟨h', tk, rfl, hk'⟩ := PySem.W.moved_old e rfl m
    exact h0 (List.eq_nil_of_length_eq_zero (by omega)) h' tk hk'
  · obtain ⟨h', tk, rfl, hk'⟩ := PySem.W.moved_old e rfl m
    cases xs with
    | nil => exact absurd hp (by rw [hn]; exact Nat.lt_irrefl 0)
    | cons y ys =>
      have e1 : vs.size - 1 = ys.length := by rw [hn]; rfl
      have e2 := (PySem.W.argBest_fold PySem.W.dataLt PyData.none y ys ys.length (Nat.le_refl _)).2
      rw [List.take_length] at e2
      rw [e1] at hP
      exact h y ys _ v h' tk rfl hP e2 hk'
end
def rMinF (K : PySem.W.Frag) : List V → List V → Hp → VK → Prop := fun xs zs H Q => ∃ (a : Addr) (bs : List (V × PyData)) (z : V), xs = [.ref a] ∧ zs = [z] ∧ SqL K H a (bs.map (·.1)) ∧ (∀ c ∈ bs, Dp K H c.1 c.2) ∧ PySem.W.AlikeAll (bs.map (·.2)) ∧ (∀ c ∈ bs, c.2.depth ≤ 40) ∧ (bs = [] → Q z H) ∧
  ∀ b bs', bs = b :: bs' → ∀ c ∈ bs, c.2 = PySem.W.minD b.2 (bs'.map (·.2)) → Q c.1 H
theorem call_minF (hc : X.calm = true) (hu : X.A.units + 64 < cLine) : CallRK X (.builtin "min") [Str.ofString "default"] (rMinF X.K) := by
  intro pins s σ H vs zs us ws Q I r r' h
  obtain ⟨a, bs, z, rfl, rfl, hs, hd, h1, h3, q0, q⟩ := h
  obtain ⟨its, rv, hl, hz⟩ := I.list hs
  rw [Vals.ref1 r]
  cases r' with
  | cons rz rt =>
    cases rt
    obtain ⟨e, er⟩ := dp_each I rv hd
    obtain ⟨as, hr⟩ := readsAll_of er
    have hdep : PyData.depthAll (bs.map (·.2)) ≤ 40 := depthAll_le fun x hx => by
      obtain ⟨c, hc, rfl⟩ := List.mem_map.mp hx
      exact h3 c hc
    refine min_list_dfl (xs := bs.map (·.2)) (I.ok.hd hc) hl.isList (by simpa using hr) h1 (by omega) (fun e0 h' tk hk => ?_) fun y ys i v h' tk ex hv he hk => ?_
    · exact ⟨z, H, I.kept (t' := tk) hk, rz, q0 (List.map_eq_nil_iff.mp e0)⟩
    · have hv : its[i]? = some v := by simpa using hv
      obtain ⟨c, hc1, hc2⟩ := each_get e hv
      cases bs with
      | nil => cases ex
      | cons b bs =>
        rw [List.map_cons] at ex
        obtain ⟨rfl, rfl⟩ := List.cons.inj ex
        have ec : c.2 = PySem.W.minD b.2 (bs.map (·.2)) := by
          rw [← he]
          have : ((b :: bs).map (·.2))[i]? = some c.2 := by
            have := congrArg (Option.map (·.2)) hc1
            rw [← List.getElem?_map] at this
            simpa using this
          rw [List.getD_eq_getElem?_getD, this]
          rfl
        exact ⟨c.1, H, I.kept (t' := tk) hk, hc2, q b bs rfl c (List.mem_of_getElem? hc1) ec⟩
/-- min(l, default=z) -/
def dMinF (da dk : DA) : DE := fun δ μ Q => da δ μ fun xs δ1 μ1 => dk δ1 μ1 fun zs δ2 μ2 => ∃ (d z : D) (ps : List (D × PyData)), xs = [d] ∧ zs = [z] ∧ lstOf μ2 d = some (ps.map (·.1)) ∧ (∀ c ∈ ps, pd c.1 = some c.2) ∧ PySem.W.AlikeAll (ps.map (·.2)) ∧ (∀ c ∈ ps, c.2.depth ≤ 40) ∧ (ps = [] → Q z δ2 μ2) ∧ ∀ p ps', ps = p :: ps' → ∀ c ∈ ps, c.2 = PySem.W.minD p.2 (ps'.map (·.2)) → Q c.1 δ2 μ2
theorem d_minF {e : Expr} {p pos : Pos} {kws : List Keyword} {ta tk : TA} {da dk : DA} (hc : X.calm = true) (hu : X.A.units + 64 < cLine) (hm : X.mg "min" = none) (ha : PDA K Z X [e] ta da) (hkw : PDK K Z X kws tk dk) (hg : Gl X "min" := by rfl) (hk : X.K = K := by rfl)
    (he : backTo pos (starEach [e] X.env) = (false, eval e X.env) :: backTo pos (starEach [] X.env) := by rfl) (hpl : (backTo pos (starEach [e] X.env)).any (·.1) = false := by rfl)
    (hall : (backToKw pos (keywordEach kws X.env)).all (·.1.isSome) = true := by rfl) (hnone : (backToKw pos (keywordEach kws X.env)).any (·.1.isNone) = false := by rfl) (hks : (backToKw pos (keywordEach kws X.env)).filterMap (·.1) = [Str.ofString "default"] := by rfl) :
    PD K Z X (.Call (.Name "min" p) [e] kws pos) (tCKw (rMinF K) ta tk) (dMinF da dk) := by
  subst hk
  exact ⟨pe_callBK (call_minF hc hu) hg hm (by decide +kernel) ha.p hkw.p (by decide) (by decide) he hpl hall hnone hks, fun B hB S μ H σ δ Q QD rl k q => by
    refine ha.s B hB S μ H σ δ _ _ rl (fun S1 μ1 H1 δ1 xs ds e1 r1 hx q1 => ?_) q
    refine hkw.s B hB S1 μ1 H1 σ δ1 _ _ r1 (fun S2 μ2 H2 δ2 zs es e2 r2 hz q2 => ?_) q1
    obtain ⟨d, z, ps, rfl, rfl, hl, h1, h2, h4, q0, q⟩ := q2
    obtain ⟨v, rfl, hv⟩ := RepL.one' (RepL.mono e2 _ _ hx)
    obtain ⟨zv, rfl, hzv⟩ := RepL.one' hz
    obtain ⟨a, vs, rfl, hs, hr⟩ := lst_is r2.r3 hv hl
    obtain ⟨ts, rfl, rfl, ht⟩ := zip_rep hr
    refine ⟨a, ts.map (fun t => (t.2, t.1.2)), zv, rfl, rfl, by rw [List.map_map]; exact hs, fun c hc' => ?_, ?_, fun c hc' => ?_, fun e0 => ?_, fun b bs' eb c hc' he' => ?_⟩
    · obtain ⟨u, hu', rfl⟩ := List.mem_map.mp hc'
      exact dp_of r2.r3.ex _ _ _ (ht u hu') (h1 u.1 (List.mem_map.mpr ⟨u, hu', rfl⟩))
    · have : (ts.map (fun t : (D × PyData) × V => (t.2, t.1.2))).map (fun b : V × PyData => b.2) = (ts.map (·.1)).map (fun p : D × PyData => p.2) := by rw [List.map_map, List.map_map]; rfl
      rw [this]; exact h2
    · obtain ⟨u, hu', rfl⟩ := List.mem_map.mp hc'
      exact h4 u.1 (List.mem_map.mpr ⟨u, hu', rfl⟩)
    · exact k S2 μ2 H2 δ2 zv z (e1.trans e2) r2 hzv (q0 (by rw [List.map_eq_nil_iff] at e0; rw [e0]; rfl))
    · obtain ⟨u, hu', rfl⟩ := List.mem_map.mp hc'
      cases ts with
      | nil => cases hu'
      | cons t ts =>
        rw [List.map_cons] at eb
        obtain ⟨rfl, rfl⟩ := List.cons.inj eb
        refine k S2 μ2 H2 δ2 u.2 u.1.1 (e1.trans e2) r2 (ht u hu') (q t.1 (ts.map (·.1)) rfl u.1 (List.mem_map.mpr ⟨u, hu', rfl⟩) ?_)
        rw [List.map_map] at he' ⊢
        exact he'⟩
/-! ### d.setdefault(k, x) -/
def dSetd (do_ dk dx : DE) : DE := fun δ μ Q => do_ δ μ fun x δ1 μ1 => (∃ p l, x = .ref p ∧ μ1 p = some (.dct l)) ∧ dk δ1 μ1 fun y δ2 μ2 => dx δ2 μ2 fun z δ3 μ3 => ∃ p l k, x = .ref p ∧ μ3 p = some (.dct l) ∧ keyD y = some k ∧ l.length < sizeLine ∧
  (∀ d, valD l k = some d → Q d δ3 μ3) ∧ (valD l k = none → Q z δ3 (updM μ3 p (.dct (putKD l k z))))
theorem d_setd {o e f : Expr} {apos cpos : Pos} {to te tf : TE} {do_ de df : DE} (ho : PD K Z X o to do_) (he : PD K Z X e te de) (hf : PD K Z X f tf df) (m : M2 X o "setdefault" apos e f cpos := by exact ⟨rfl, rfl, rfl, rfl⟩) : PD K Z X (.Call (.Attribute o "setdefault" apos) [e, f] [] cpos) (tDSetd to te tf) (dSetd do_ de df) :=
  ⟨pe_dsetd ho.p he.p hf.p m, fun B hB S μ H σ δ Q QD rl k q => by
    refine ho.s B hB S μ H σ δ _ _ rl (fun S1 μ1 H1 δ1 x dx e1 r1 hx q1 => ?_) q
    obtain ⟨⟨p, l, rfl, hm⟩, q1⟩ := q1
    have hx : x = .ref p := hx
    subst hx
    obtain ⟨_, o', h3, vs, rfl, h4⟩ := r1.r3.mu p _ hm
    refine ⟨p, rfl, .inl ⟨vs, .inl h3⟩, ?_⟩
    refine he.s B hB S1 μ1 H1 σ δ1 _ _ r1 (fun S2 μ2 H2 δ2 y dy e2 r2 hy q2 => ?_) q1
    refine hf.s B hB S2 μ2 H2 σ δ2 _ _ r2 (fun S3 μ3 H3 δ3 z dz e3 r3 hz q3 => ?_) q2
    obtain ⟨p', l', kk, ep, hm', hk', hl', q4, q5⟩ := q3
    cases ep
    obtain ⟨_, o', h5, vs', rfl, h6⟩ := r3.r3.mu p _ hm'
    obtain ⟨v1, v2⟩ := RepK.val (k := kk) h6
    refine ⟨vs', kk, h5, key_v (Rep.mono e3 _ _ hy) hk', by rw [RepK.len h6]; exact hl', fun v hv => ?_, fun hn => ?_⟩
    · cases ev : valD l' kk with
      | none => rw [v2 ev] at hv; cases hv
      | some d =>
        obtain ⟨v', e4, h7⟩ := v1 d ev
        rw [e4] at hv
        cases hv
        exact k S3 μ3 H3 δ3 _ d ((e1.trans e2).trans e3) r3 h7 (q4 d ev)
    · have en : valD l' kk = none := by
        cases ev : valD l' kk with
        | none => rfl
        | some d => obtain ⟨v', e4, _⟩ := v1 d ev; rw [e4] at hn; cases hn
      obtain ⟨r4, g⟩ := r3.r3.write hm' (o := .dK (putK vs' kk z)) (m := .dct (putKD l' kk dz)) ⟨_, rfl, RepK.put hz h6⟩
      exact k S3 _ _ δ3 _ dz ((e1.trans e2).trans e3) (r3.grow g r4) hz (q5 en)⟩
/-! ### d[k] += e -/
def dAugK (do_ dk de : DE) (f : Int → Int → Int) : DS := fun DD δ μ => do_ δ μ fun x δ1 μ1 => dk δ1 μ1 fun y δ2 μ2 => ∃ l k n, dicOf μ2 x = some l ∧ keyD y = some k ∧ valD l k = some (.int n) ∧
  de δ2 μ2 fun d δ3 μ3 => ∃ m p l', d = .int m ∧ x = .ref p ∧ μ3 p = some (.dct l') ∧ l'.length < sizeLine ∧ DD.nx δ3 (updM μ3 p (.dct (putKD l' k (.int (f n m)))))
theorem simAugK {to tk te : TE} {do_ dk de : DE} {f : Int → Int → Int} (ho : SimE K Z to do_) (hk : SimE K Z tk dk) (he : SimE K Z te de) : SimS K Z (sDAug to tk te (ipI f)) (dAugK do_ dk de f) := fun B hB S μ H σ δ E DD rl lf q => by
  refine ho B hB S μ H σ δ _ _ rl (fun S1 μ1 H1 δ1 x dx e1 r1 hx q1 => ?_) q
  refine hk B hB S1 μ1 H1 σ δ1 _ _ r1 (fun S2 μ2 H2 δ2 y dy e2 r2 hy q2 => ?_) q1
  obtain ⟨l, k, n, h1, h2, h3, q2⟩ := q2
  obtain ⟨a, vs, rfl, h4, h5⟩ := dic_is r2.r3 (Rep.mono e2 _ _ hx) h1
  obtain ⟨v, h6, h7⟩ := (RepK.val h5).1 _ h3
  have h7 : v = .int n := h7
  subst h7
  refine ⟨a, _, rfl, .inl ⟨vs, k, h4, key_v hy h2, h6.symm⟩, ?_⟩
  refine he B hB S2 μ2 H2 σ δ2 _ _ r2 (fun S3 μ3 H3 δ3 u d e3 r3 hu q3 => ?_) q2
  obtain ⟨m, p, l', rfl, rfl, hm, hl, q3⟩ := q3
  have hx : V.ref a = .ref p := hx
  cases hx
  obtain ⟨_, o', h8, vs', rfl, h9⟩ := r3.r3.mu a _ hm
  obtain ⟨r4, g⟩ := r3.r3.write hm (o := .dK (putK vs' k (.int (f n m)))) (m := .dct (putKD l' k (.int (f n m)))) ⟨_, rfl, RepK.put (d := .int (f n m)) rfl h9⟩
  exact ⟨n, m, rfl, hu, _, .inl ⟨vs', k, h8, key_v hy h2, by rw [RepK.len h9]; exact hl, rfl⟩, lf.nx _ _ _ σ δ3 (r3.grow g r4) q3⟩
theorem inop_of {op : Operator} {r : TIp} (h : PIp X op r) : InOp X op r := fun pins s σ H x y u v Q I rx ry q => h pins s σ H x y u v Q I rx ry q
theorem s_augK {o i e : Expr} {pos tpos : Pos} {to tk te : TE} {do_ dk de : DE} (hu : X.A.units + 1 < cLine) (ho : PD K Z X o to do_) (hi : PD K Z X i tk dk) (he : PD K Z X e te de) (ha : ∀ ov iv new, augStore i ov iv new = (do holding [new, ov, iv] (setItem ov iv new); release [new, ov, iv] []; pure .next) := by intros; rfl) :
    PDS K Z X (.AugAssign (.Subscript o i tpos) .Add e pos) (sDAug to tk te (ipI fun i j => i + j)) (dAugK do_ dk de fun i j => i + j) := ⟨ps_daug hu ho.p hi.p he.p (inop_of ip_add) ha, simAugK ho.s hi.s he.s⟩
end Dl

namespace Dl
open PySem PySem.Spec PyProof.Rows L2
variable {K : PySem.W.Frag} {μ : Mem} {δ : Ss} {Q : QE} {QM' : QM} {nx bk ct : Ss → Mem → Prop} {rt : QM}
/-! ### the walk's steps: statements -/
def nxSet (R : Ss → Mem → Prop) (k : Nat) (x : SL) : Ss → Mem → Prop := fun δ μ => R (δ.set k x) μ
theorem i_seq {t u : DS} (h : t ⟨u ⟨nx, rt, bk, ct⟩, rt, bk, ct⟩ δ μ) : dSeq t u ⟨nx, rt, bk, ct⟩ δ μ := h
def apNx (R : Ss → Mem → Prop) (i : Nat) (d : D) : Ss → Mem → Prop := fun δ1 μ1 => ∃ b, δ1[i]? = some (.own (.lst b)) ∧ b.length < sizeLine ∧ R (δ1.set i (.own (.lst (b ++ [d])))) μ1
theorem i_next (h : nx δ μ) : dNext ⟨nx, rt, bk, ct⟩ δ μ := h
theorem i_break (h : bk δ μ) : dBreak ⟨nx, rt, bk, ct⟩ δ μ := h
theorem i_cont (h : ct δ μ) : dCont ⟨nx, rt, bk, ct⟩ δ μ := h
theorem i_set {i : Nat} {de : DE} (h : de δ μ fun d δ1 μ1 => nxSet nx i (.val d) δ1 μ1) : dSet i de ⟨nx, rt, bk, ct⟩ δ μ := h
theorem i_own {i : Nat} {df : DF} (h : df δ μ fun m δ1 μ1 => nxSet nx i (.own m) δ1 μ1) : dOwn i df ⟨nx, rt, bk, ct⟩ δ μ := h
theorem i_asg {de : DE} {g : DG} (h : de δ μ fun d δ1 μ1 => g d δ1 μ1 nx) : dAsg de g ⟨nx, rt, bk, ct⟩ δ μ := h
theorem i_gname {i : Nat} {d : D} {R : Ss → Mem → Prop} (h : nxSet R i (.val d) δ μ) : gdName i d δ μ R := h
theorem i_gtup {n : Nat} {t : DGs} {l : List D} {R : Ss → Mem → Prop} (hl : l.length = n) (h : t l δ μ R) : gdTup n t (.tup l) δ μ R := ⟨l, rfl, hl, h⟩
theorem i_glst {n : Nat} {t : DGs} {l : List D} {R : Ss → Mem → Prop} (hl : l.length = n) (h : t l δ μ R) : gdLst n t (.lst l) δ μ R := ⟨l, rfl, hl, h⟩
theorem i_gcons {t : DG} {u : DGs} {d : D} {r : List D} {R : Ss → Mem → Prop} (h : t d δ μ fun δ' μ' => u r δ' μ' R) : gdCons t u (d :: r) δ μ R := ⟨d, r, rfl, h⟩
theorem i_gnil {R : Ss → Mem → Prop} (h : R δ μ) : gdNil [] δ μ R := ⟨rfl, h⟩
theorem i_drop {de : DE} (h : de δ μ fun _ δ1 μ1 => nx δ1 μ1) : dDrop de ⟨nx, rt, bk, ct⟩ δ μ := h
theorem i_ret {de : DE} (h : de δ μ fun d _ μ1 => rt d μ1) : dRet de ⟨nx, rt, bk, ct⟩ δ μ := h
theorem i_retN (h : rt .non μ) : dRetN ⟨nx, rt, bk, ct⟩ δ μ := h
theorem i_ifs {c : DT} {t u : DS} (h : c δ μ fun b δ1 μ1 => if b = true then t ⟨nx, rt, bk, ct⟩ δ1 μ1 else u ⟨nx, rt, bk, ct⟩ δ1 μ1) : dIfS c t u ⟨nx, rt, bk, ct⟩ δ μ := h
/-! expressions -/
theorem i_C {d : D} (h : Q d δ μ) : dC d δ μ Q := h
theorem i_op {dr : DR} {da db : DE} (h : da δ μ fun x δ1 μ1 => db δ1 μ1 fun y δ2 μ2 => dr x y μ2 fun d μ3 => Q d δ2 μ3) : dOp dr da db δ μ Q := h
theorem i_chain {r r' : DR} {da db dc : DE} (h : da δ μ fun x δ1 μ1 => db δ1 μ1 fun y δ2 μ2 => r x y μ2 fun z μ3 => ∃ k, z = .bl k ∧ (if k = true then dc δ2 μ3 fun w δ4 μ4 => r' y w μ4 fun d μ5 => Q d δ4 μ5 else Q (.bl false) δ2 μ3)) : dChain r r' da db dc δ μ Q := h
theorem i_exbl {b : Bool} {P : Bool → Prop} (h : P b) : ∃ k, D.bl b = .bl k ∧ P k := ⟨b, rfl, h⟩
theorem i_exint {b : Int} {P : Int → Prop} (h : P b) : ∃ k, D.int b = .int k ∧ P k := ⟨b, rfl, h⟩
theorem i_exstr {b : Str} {P : Str → Prop} (h : P b) : ∃ k, D.str b = .str k ∧ P k := ⟨b, rfl, h⟩
theorem i_test {de : DE} {R : Bool → Ss → Mem → Prop} (h : de δ μ fun d δ1 μ1 => ∃ b, d = .bl b ∧ R b δ1 μ1) : dTest de δ μ R := h
theorem i_and {t u : DT} {R : Bool → Ss → Mem → Prop} (h : t δ μ fun c δ1 μ1 => if c = true then u δ1 μ1 R else R false δ1 μ1) : dAnd t u δ μ R := h
theorem i_or {t u : DT} {R : Bool → Ss → Mem → Prop} (h : t δ μ fun c δ1 μ1 => if c = true then R true δ1 μ1 else u δ1 μ1 R) : dOr t u δ μ R := h
theorem i_not {t : DT} {R : Bool → Ss → Mem → Prop} (h : t δ μ fun c δ1 μ1 => R (!c) δ1 μ1) : dNot t δ μ R := h
theorem i_andV {t u : DE} (h : t δ μ fun x δ1 μ1 => ∃ c, x = .bl c ∧ if c = true then u δ1 μ1 Q else Q (.bl false) δ1 μ1) : dAndV t u δ μ Q := h
theorem i_orV {t u : DE} (h : t δ μ fun x δ1 μ1 => ∃ c, x = .bl c ∧ if c = true then Q (.bl true) δ1 μ1 else u δ1 μ1 Q) : dOrV t u δ μ Q := h
theorem i_notV {t : DE} (h : t δ μ fun x δ1 μ1 => ∃ c, x = .bl c ∧ Q (.bl (!c)) δ1 μ1) : dNotV t δ μ Q := h
theorem i_ifE {t : DT} {da db : DE} (h : t δ μ fun c δ1 μ1 => if c = true then da δ1 μ1 Q else db δ1 μ1 Q) : dIf t da db δ μ Q := h
theorem i_nil {R : List D → Ss → Mem → Prop} (h : R [] δ μ) : dNil δ μ R := h
theorem i_cons {da : DE} {dr : DA} {R : List D → Ss → Mem → Prop} (h : da δ μ fun x δ1 μ1 => dr δ1 μ1 fun xs δ2 μ2 => R (x :: xs) δ2 μ2) : dCons da dr δ μ R := h
theorem i_tup0 {da : DA} (h : da δ μ fun xs δ1 μ1 => xs.length ≤ sizeLine ∧ Q (.tup xs) δ1 μ1) : dTup da δ μ Q := h
theorem i_lst0 {da : DA} (h : da δ μ fun xs δ1 μ1 => xs.length ≤ sizeLine ∧ Q (.lst xs) δ1 μ1) : dLst da δ μ Q := h
theorem i_flst0 {da : DA} {R : MO → Ss → Mem → Prop} (h : da δ μ fun xs δ1 μ1 => xs.length ≤ sizeLine ∧ R (.lst xs) δ1 μ1) : fLst da δ μ R := h
theorem i_lstM0 {da : DA} (h : da δ μ fun xs δ1 μ1 => xs.length ≤ sizeLine ∧ ∀ p, μ1 p = none → Q (.ref p) δ1 (updM μ1 p (.lst xs))) : dLstM da δ μ Q := h
theorem i_ice {df : DF} (h : df δ μ fun m δ1 μ1 => Q (frozen m) δ1 μ1) : dIce df δ μ Q := h
theorem i_CB {dc : DC} {da : DA} (h : da δ μ fun ds δ1 μ1 => dc ds μ1 fun d μ2 => Q d δ1 μ2) : dCB dc da δ μ Q := h
theorem i_callX {dsp : DSp} {dds : List D} {XD : DXW} {da : DA} (h : da δ μ fun ds δ1 μ1 => dsp (ds ++ dds) μ1 (fun d μ2 => Q d δ1 μ2) (fun c fs μ2 => XD c fs δ1 μ2)) : dCallX dsp dds XD da δ μ Q := h
theorem i_callX0 {dsp : DSp} {XD : DXW} {da : DA} (h : da δ μ fun ds δ1 μ1 => dsp ds μ1 (fun d μ2 => Q d δ1 μ2) (fun c fs μ2 => XD c fs δ1 μ2)) : dCallX dsp [] XD da δ μ Q := by
  unfold dCallX
  simp only [List.append_nil]
  exact h
/-- the receiver of a method -/
def OnM (C m : Str) (x : D) (μ : Mem) (R : Prop) : Prop := ∃ fs, objOf μ x = some (C, fs) ∧ fs.lookup m = none ∧ R
theorem i_methX {C m : Str} {dsp : DSp} {dds : List D} {XD : DXW} {do_ : DE} {da : DA} (h : do_ δ μ fun x δ1 μ1 => OnM C m x μ1 (da δ1 μ1 fun ds δ2 μ2 => dsp (x :: (ds ++ dds)) μ2 (fun d μ3 => Q d δ2 μ3) (fun c fs μ3 => XD c fs δ2 μ3))) : dMethX C m dsp dds XD do_ da δ μ Q := h
theorem i_methX0 {C m : Str} {dsp : DSp} {XD : DXW} {do_ : DE} {da : DA} (h : do_ δ μ fun x δ1 μ1 => OnM C m x μ1 (da δ1 μ1 fun ds δ2 μ2 => dsp (x :: ds) μ2 (fun d μ3 => Q d δ2 μ3) (fun c fs μ3 => XD c fs δ2 μ3))) : dMethX C m dsp [] XD do_ da δ μ Q := by
  unfold dMethX
  simp only [List.append_nil]
  exact h
theorem onm_obj {C m : Str} {fs : List (Str × D)} {R : Prop} (hm : fs.lookup m = none) (h : R) : OnM C m (.obj C fs) μ R := ⟨fs, rfl, hm, h⟩
theorem onm_ref {C m : Str} {p : Addr} {fs : List (Str × D)} {R : Prop} (hp : μ p = some (.obj C fs)) (hm : fs.lookup m = none) (h : R) : OnM C m (.ref p) μ R := ⟨fs, by unfold objOf; dsimp only; rw [hp], hm, h⟩
/-- a field -/
def OfF (C f : Str) (x : D) (μ : Mem) (R : D → Prop) : Prop := ∃ fs d, objOf μ x = some (C, fs) ∧ fs.lookup f = some d ∧ R d
theorem i_fld {C f : Str} {da : DE} (h : da δ μ fun x δ1 μ1 => OfF C f x μ1 fun d => Q d δ1 μ1) : dFld C f da δ μ Q := h
theorem off_obj {C f : Str} {fs : List (Str × D)} {d : D} {R : D → Prop} (e : fs.lookup f = some d) (h : R d) : OfF C f (.obj C fs) μ R := ⟨fs, d, rfl, e, h⟩
theorem off_ref {C f : Str} {p : Addr} {fs : List (Str × D)} {d : D} {R : D → Prop} (hp : μ p = some (.obj C fs)) (e : fs.lookup f = some d) (h : R d) : OfF C f (.ref p) μ R := ⟨fs, d, by unfold objOf; dsimp only; rw [hp], e, h⟩
/-- a field is set -/
def ToF (C f : Str) (x d : D) (μ : Mem) (R : Mem → Prop) : Prop := ∃ p fs, x = .ref p ∧ μ p = some (.obj C fs) ∧ fs.length < 1000 ∧ R (updM μ p (.obj C (putD f d fs)))
theorem i_setFld {C f : Str} {da de : DE} (h : de δ μ fun d δ1 μ1 => da δ1 μ1 fun x δ2 μ2 => ToF C f x d μ2 fun μ3 => nx δ2 μ3) : dSetFld C f da de ⟨nx, rt, bk, ct⟩ δ μ := h
theorem tof_ref {C f : Str} {p : Addr} {d : D} {fs gs : List (Str × D)} {R : Mem → Prop} (hp : μ p = some (.obj C fs)) (e : putD f d fs = gs) (hl : fs.length < 1000) (h : R (updM μ p (.obj C gs))) : ToF C f (.ref p) d μ R := ⟨p, fs, rfl, hp, hl, by rw [e]; exact h⟩
/-- an exception leaves a maker: what was begun is gone -/
def DropX (XD : DXW) (p : Addr) : DXW := fun c fs δ μ => XD c fs δ (dropM μ p)
theorem drop_x {XD : DXW} {p : Addr} {c : Str} {fs : XF} {m : MO} (hp : μ p = none) (h : XD c fs δ μ) : DropX XD p c fs δ (updM μ p m) := by
  unfold DropX
  rw [dropM_upd hp]
  exact h
theorem i_makeM {C : Str} {dsp : DSp} {dds : List D} {XD : DXW} {da : DA} (h : da δ μ fun ds δ1 μ1 => ∀ p, μ1 p = none → dsp (.ref p :: (ds ++ dds)) (updM μ1 p (.obj C [])) (fun d μ2 => d = .non ∧ Q (.ref p) δ1 μ2) (fun c fs μ2 => DropX XD p c fs δ1 μ2)) : dMakeM C dsp dds XD da δ μ Q := h
theorem i_makeM0 {C : Str} {dsp : DSp} {XD : DXW} {da : DA} (h : da δ μ fun ds δ1 μ1 => ∀ p, μ1 p = none → dsp (.ref p :: ds) (updM μ1 p (.obj C [])) (fun d μ2 => d = .non ∧ Q (.ref p) δ1 μ2) (fun c fs μ2 => DropX XD p c fs δ1 μ2)) : dMakeM C dsp [] XD da δ μ Q := by
  unfold dMakeM
  simp only [List.append_nil]
  exact h
/-- what an object becomes that stays -/
def IceO (C : Str) (p : Addr) (d : D) (μ : Mem) (R : D → Mem → Prop) : Prop := d = .non ∧ ∃ p' fs, D.ref p = .ref p' ∧ μ p' = some (.obj C fs) ∧ R (.obj C fs) (dropM μ p')
theorem ice_o {C : Str} {p : Addr} {fs : List (Str × D)} {R : D → Mem → Prop} (hp : μ p = some (.obj C fs)) (h : R (.obj C fs) (dropM μ p)) : IceO C p .non μ R := ⟨rfl, p, fs, rfl, hp, h⟩
theorem ice_n {C : Str} {p : Addr} {fs : List (Str × D)} {R : D → Mem → Prop} (hp : μ p = none) (h : R (.obj C fs) μ) : IceO C p .non (updM μ p (.obj C fs)) R := ice_o updM_same (by rw [dropM_upd hp]; exact h)
theorem ice_n2 {C : Str} {p : Addr} {m : MO} {fs : List (Str × D)} {R : D → Mem → Prop} (hp : μ p = none) (h : R (.obj C fs) μ) : IceO C p .non (updM (updM μ p m) p (.obj C fs)) R := by
  rw [updM_upd]; exact ice_n hp h
theorem i_makeI {C : Str} {dsp : DSp} {dds : List D} {XD : DXW} {da : DA} (h : da δ μ fun ds δ1 μ1 => ∀ p, μ1 p = none → dsp (.ref p :: (ds ++ dds)) (updM μ1 p (.obj C [])) (fun d μ2 => IceO C p d μ2 fun d μ3 => Q d δ1 μ3) (fun c fs μ2 => DropX XD p c fs δ1 μ2)) : dMakeI C dsp dds XD da δ μ Q := h
theorem i_makeI0 {C : Str} {dsp : DSp} {XD : DXW} {da : DA} (h : da δ μ fun ds δ1 μ1 => ∀ p, μ1 p = none → dsp (.ref p :: ds) (updM μ1 p (.obj C [])) (fun d μ2 => IceO C p d μ2 fun d μ3 => Q d δ1 μ3) (fun c fs μ2 => DropX XD p c fs δ1 μ2)) : dMakeI C dsp [] XD da δ μ Q := by
  unfold dMakeI
  simp only [List.append_nil]
  exact h
/-- a list of the memory gets one more -/
def AppR (x d : D) (μ : Mem) (R : Mem → Prop) : Prop := ∃ p l, x = .ref p ∧ μ p = some (.lst l) ∧ l.length < sizeLine ∧ R (updM μ p (.lst (l ++ [d])))
def isL (x : D) (μ : Mem) : Prop := ∃ p l, x = .ref p ∧ μ p = some (.lst l)
theorem i_appM {da de : DE} (h : da δ μ fun x δ1 μ1 => isL x μ1 ∧ de δ1 μ1 fun d δ2 μ2 => AppR x d μ2 fun μ3 => nx δ2 μ3) : dAppM da de ⟨nx, rt, bk, ct⟩ δ μ := h
theorem is_l {p : Addr} {l : List D} {P : Prop} (hp : μ p = some (.lst l)) (h : P) : isL (.ref p) μ ∧ P := ⟨⟨p, l, rfl, hp⟩, h⟩
theorem app_r {p : Addr} {l : List D} {d : D} {R : Mem → Prop} (hp : μ p = some (.lst l)) (hl : l.length < 100000) (h : R (updM μ p (.lst (l ++ [d])))) : AppR (.ref p) d μ R := ⟨p, l, rfl, hp, Nat.lt_of_lt_of_le hl (by decide), h⟩
theorem i_raise {XD : DXW} {C : Str} (h : XD C none δ μ) : dRaise XD C ⟨nx, rt, bk, ct⟩ δ μ := h
/-- what a try does with an exception of its body -/
def TryX (EX : List Str) (CN : Str) (i : Nat) (XD : DXW) (dsu : DS) (nx : Ss → Mem → Prop) (rt : QM) (bk ct : Ss → Mem → Prop) : DXW := fun c fs δ1 μ1 => EX.contains c = true ∧ if isb c CN = true then dsu ⟨fun δ2 μ2 => nx (δ2.set i .no) μ2, rt, fun δ2 μ2 => bk (δ2.set i .no) μ2, fun δ2 μ2 => ct (δ2.set i .no) μ2⟩ (δ1.set i (.val (excD c fs))) μ1 else XD c fs δ1 μ1
theorem i_try {EX : List Str} {CN : Str} {i : Nat} {XD : DXW} {db : DXW → DS} {dsu : DS} (h : db (TryX EX CN i XD dsu nx rt bk ct) ⟨nx, rt, bk, ct⟩ δ μ) : dTry EX CN i XD db dsu ⟨nx, rt, bk, ct⟩ δ μ := h
theorem caught {EX : List Str} {CN c : Str} {i : Nat} {XD : DXW} {dsu : DS} (h1 : (EX.contains c && isb c CN) = true) (h : dsu ⟨nxSet nx i .no, rt, nxSet bk i .no, nxSet ct i .no⟩ (δ.set i (.val (.exc c [] false))) μ) : TryX EX CN i XD dsu nx rt bk ct c none δ μ := by
  obtain ⟨a, b⟩ := He.ba h1
  exact ⟨a, by rw [if_pos b]; exact h⟩
def TryX0 (EX : List Str) (CN : Str) (XD : DXW) (dsu : DS) (nx : Ss → Mem → Prop) (rt : QM) (bk ct : Ss → Mem → Prop) : DXW := fun c fs δ1 μ1 => EX.contains c = true ∧ if isb c CN = true then dsu ⟨nx, rt, bk, ct⟩ δ1 μ1 else XD c fs δ1 μ1
theorem i_try0 {EX : List Str} {CN : Str} {XD : DXW} {db : DXW → DS} {dsu : DS} (h : db (TryX0 EX CN XD dsu nx rt bk ct) ⟨nx, rt, bk, ct⟩ δ μ) : dTry0 EX CN XD db dsu ⟨nx, rt, bk, ct⟩ δ μ := h
theorem caught0 {EX : List Str} {CN c : Str} {fs : XF} {XD : DXW} {dsu : DS} (h1 : (EX.contains c && isb c CN) = true) (h : dsu ⟨nx, rt, bk, ct⟩ δ μ) : TryX0 EX CN XD dsu nx rt bk ct c fs δ μ := by
  obtain ⟨a, b⟩ := He.ba h1
  exact ⟨a, by rw [if_pos b]; exact h⟩
/-- isinstance with an own class -/
def IsC (EX CL : List Str) (CN : Str) (x : D) (μ : Mem) (R : Bool → Prop) : Prop := ∃ b, clsD EX CL CN μ x = some b ∧ R b
theorem i_isC {EX CL : List Str} {CN : Str} {de : DE} (h : de δ μ fun x δ1 μ1 => IsC EX CL CN x μ1 fun b => Q (.bl b) δ1 μ1) : dIsC EX CL CN de δ μ Q := h
theorem isC_non {EX CL : List Str} {CN : Str} {R : Bool → Prop} (h : R false) : IsC EX CL CN .non μ R := ⟨false, rfl, h⟩
theorem isC_bl {EX CL : List Str} {CN : Str} {b : Bool} {R : Bool → Prop} (h : R false) : IsC EX CL CN (.bl b) μ R := ⟨false, rfl, h⟩
theorem isC_int {EX CL : List Str} {CN : Str} {b : Int} {R : Bool → Prop} (h : R false) : IsC EX CL CN (.int b) μ R := ⟨false, rfl, h⟩
theorem isC_str {EX CL : List Str} {CN : Str} {b : Str} {R : Bool → Prop} (h : R false) : IsC EX CL CN (.str b) μ R := ⟨false, rfl, h⟩
theorem isC_tup {EX CL : List Str} {CN : Str} {b : List D} {R : Bool → Prop} (h : R false) : IsC EX CL CN (.tup b) μ R := ⟨false, rfl, h⟩
theorem isC_lst {EX CL : List Str} {CN : Str} {b : List D} {R : Bool → Prop} (h : R false) : IsC EX CL CN (.lst b) μ R := ⟨false, rfl, h⟩
theorem isC_exc {EX CL : List Str} {CN c : Str} {b : Bool} {R : Bool → Prop} (h1 : (EX.contains c && isb c CN == b) = true) (h : R b) : IsC EX CL CN (.exc c [] false) μ R := by
  obtain ⟨x, y⟩ := He.ba h1
  refine ⟨b, ?_, h⟩
  show (if EX.contains c then some (isb c CN) else none) = some b
  rw [if_pos x, beq_iff_eq.mp y]
theorem isC_obj {EX CL : List Str} {CN c : Str} {fs : List (Str × D)} {b : Bool} {R : Bool → Prop} (h1 : (CL.contains c && isb c CN == b) = true) (h : R b) : IsC EX CL CN (.obj c fs) μ R := by
  obtain ⟨x, y⟩ := He.ba h1
  refine ⟨b, ?_, h⟩
  show (if CL.contains c then some (isb c CN) else none) = some b
  rw [if_pos x, beq_iff_eq.mp y]
theorem i_sl {de : DE} {dl dh : DO} (h : de δ μ fun x δ1 μ1 => dl δ1 μ1 fun lo δ2 μ2 => dh δ2 μ2 fun hi δ3 μ3 => rdSl x lo hi μ3 fun d μ4 => Q d δ3 μ4) : dSl de dl dh δ μ Q := h
theorem i_noPart {R : Option Int → Ss → Mem → Prop} (h : R none δ μ) : dNoPart δ μ R := h
theorem i_part {de : DE} {R : Option Int → Ss → Mem → Prop} (h : de δ μ fun x δ1 μ1 => ∃ i, x = .int i ∧ R (some i) δ1 μ1) : dPart de δ μ R := h
open Evl (sz_of sz_lt)
/-! operators -/
theorem i_addI {i j : Int} (h : QM' (.int (i + j)) μ) : rdAdd (.int i) (.int j) μ QM' := .inl ⟨i, j, rfl, rfl, h⟩
theorem i_addS {i j : Str} (hl : i.length + j.length ≤ sizeLine) (h : QM' (.str (i ++ j)) μ) : rdAdd (.str i) (.str j) μ QM' := .inr (.inl ⟨i, j, rfl, rfl, hl, h⟩)
theorem i_addL {i j : List D} (hl : i.length + j.length ≤ sizeLine) (h : QM' (.lst (i ++ j)) μ) : rdAdd (.lst i) (.lst j) μ QM' := .inr (.inr (.inl ⟨i, j, rfl, rfl, hl, h⟩))
theorem i_addT {i j : List D} (hl : i.length + j.length ≤ sizeLine) (h : QM' (.tup (i ++ j)) μ) : rdAdd (.tup i) (.tup j) μ QM' := .inr (.inr (.inr ⟨i, j, rfl, rfl, hl, h⟩))
theorem i_sub {i j : Int} (h : QM' (.int (i - j)) μ) : rdSub (.int i) (.int j) μ QM' := ⟨i, j, rfl, rfl, h⟩
theorem i_mulI {i j : Int} (hc : CMulW i j) (h : QM' (.int (i * j)) μ) : rdMul (.int i) (.int j) μ QM' := .inl ⟨i, j, rfl, rfl, hc, h⟩
theorem i_mulL {l : List D} {n : Int} (h0 : 0 ≤ n) (h1 : n ≤ 10000) (hl : l.length * n.toNat ≤ sizeLine) (h : QM' (.lst (List.replicate n.toNat l).flatten) μ) : rdMul (.lst l) (.int n) μ QM' := .inr ⟨l, n, rfl, rfl, h0, h1, hl, h⟩
theorem i_mod {i j : Int} (hc : 0 < j) (h : QM' (.int (i % j)) μ) : rdMod (.int i) (.int j) μ QM' := ⟨i, j, rfl, rfl, hc, h⟩
theorem i_div {i j : Int} (hc : CDivW i j) (h : QM' (.int (i / j)) μ) : rdDiv (.int i) (.int j) μ QM' := ⟨i, j, rfl, rfl, hc, h⟩
theorem i_pow {i j : Int} (hc : CPow i j) (h : QM' (.int (i ^ j.toNat)) μ) : rdPow (.int i) (.int j) μ QM' := ⟨i, j, rfl, rfl, hc, h⟩
theorem i_lt {i j : Int} (h : QM' (.bl (decide (i < j))) μ) : rdLt (.int i) (.int j) μ QM' := ⟨i, j, rfl, rfl, h⟩
theorem i_le {i j : Int} (h : QM' (.bl (decide (i ≤ j))) μ) : rdLe (.int i) (.int j) μ QM' := ⟨i, j, rfl, rfl, h⟩
theorem i_gt {i j : Int} (h : QM' (.bl (decide (j < i))) μ) : rdGt (.int i) (.int j) μ QM' := ⟨i, j, rfl, rfl, h⟩
theorem i_ge {i j : Int} (h : QM' (.bl (decide (j ≤ i))) μ) : rdGe (.int i) (.int j) μ QM' := ⟨i, j, rfl, rfl, h⟩
theorem i_inS {c : Nat} {z : Str} (h : QM' (.bl (decide (c ∈ z.cps.toList))) μ) : rdInS (.str ⟨#[c]⟩) (.str z) μ QM' := ⟨c, z, rfl, rfl, h⟩
theorem i_notInS {c : Nat} {z : Str} (h : QM' (.bl (!decide (c ∈ z.cps.toList))) μ) : rdNotInS (.str ⟨#[c]⟩) (.str z) μ QM' := ⟨c, z, rfl, rfl, h⟩
theorem i_isN {d : D} (h : QM' (.bl (isNon d)) μ) : rdIsN d .non μ QM' := ⟨rfl, h⟩
theorem i_notN {d : D} (h : QM' (.bl (!isNon d)) μ) : rdNotN d .non μ QM' := ⟨rfl, h⟩
theorem i_eqI {i j : Int} (h : QM' (.bl (decide (i = j))) μ) : rdEq (.int i) (.int j) μ QM' := .inr ⟨rfl, rfl, h⟩
theorem i_neI {i j : Int} (h : QM' (.bl (!decide (i = j))) μ) : rdNe (.int i) (.int j) μ QM' := .inr ⟨rfl, rfl, h⟩
theorem i_eqS {i j : Str} (h : QM' (.bl (decide (i = j))) μ) : rdEq (.str i) (.str j) μ QM' := .inl ⟨i, j, rfl, rfl, h⟩
theorem i_neS {i j : Str} (h : QM' (.bl (!decide (i = j))) μ) : rdNe (.str i) (.str j) μ QM' := .inl ⟨i, j, rfl, rfl, h⟩
theorem i_eqB {i j : Bool} (h : QM' (.bl (i == j)) μ) : rdEq (.bl i) (.bl j) μ QM' := .inr ⟨rfl, rfl, h⟩
theorem i_neB {i j : Bool} (h : QM' (.bl (!(i == j))) μ) : rdNe (.bl i) (.bl j) μ QM' := .inr ⟨rfl, rfl, h⟩
theorem i_eq {x y : D} (h1 : shD x = true) (h2 : shD y = true) (h : QM' (.bl (eqD x y)) μ) : rdEq x y μ QM' := .inr ⟨by rw [drf_sh h1]; exact h1, by rw [drf_sh h2]; exact h2, by rw [drf_sh h1, drf_sh h2]; exact h⟩
theorem i_ne {x y : D} (h1 : shD x = true) (h2 : shD y = true) (h : QM' (.bl (!eqD x y)) μ) : rdNe x y μ QM' := .inr ⟨by rw [drf_sh h1]; exact h1, by rw [drf_sh h2]; exact h2, by rw [drf_sh h1, drf_sh h2]; exact h⟩
theorem i_ixL {l : List D} {i : Int} {d : D} (e : atI l i = some d) (h : QM' d μ) : rdIx (.lst l) (.int i) μ QM' := ⟨i, rfl, .inl ⟨l, d, rfl, e, h⟩⟩
theorem i_ixC {l : List D} {i : Int} {d : D} (e : atI l i = some d) (h : QM' d μ) : rdIx (.scr l) (.int i) μ QM' := ⟨i, rfl, .inl ⟨l, d, rfl, e, h⟩⟩
theorem i_ixT {l : List D} {i : Int} {d : D} (e : atI l i = some d) (h : QM' d μ) : rdIx (.tup l) (.int i) μ QM' := ⟨i, rfl, .inl ⟨l, d, rfl, e, h⟩⟩
theorem i_ixS {z : Str} {i : Int} {c : Nat} (hz : z.length ≤ sizeLine) (e : atI z.cps.toList i = some c) (h : QM' (.str ⟨#[c]⟩) μ) : rdIx (.str z) (.int i) μ QM' := ⟨i, rfl, .inr ⟨z, c, rfl, hz, e, h⟩⟩
theorem seqOf_ref {p : Addr} {l : List D} (h : μ p = some (.lst l)) : seqOf μ (.ref p) = some l := by unfold seqOf; dsimp only; rw [h]
theorem i_ixR {p : Addr} {l : List D} {i : Int} {d : D} (hp : μ p = some (.lst l)) (e : atI l i = some d) (h : QM' d μ) : rdIx (.ref p) (.int i) μ QM' := ⟨i, rfl, .inl ⟨l, d, seqOf_ref hp, e, h⟩⟩
theorem i_ixQ {x : D} {l : List D} {i : Int} {d : D} (hs : seqOf μ x = some l) (e : atI l i = some d) (h : QM' d μ) : rdIx x (.int i) μ QM' := ⟨i, rfl, .inl ⟨l, d, hs, e, h⟩⟩
theorem i_lenQ {x : D} {l : List D} (hs : seqOf μ x = some l) (h : QM' (.int l.length) μ) : rdLen [x] μ QM' := ⟨_, rfl, .inl ⟨l, hs, h⟩⟩
theorem i_slS {z : Str} {lo hi : Option Int} (hz : z.length ≤ sizeLine) (h : QM' (.str (cutS z lo hi)) μ) : rdSl (.str z) lo hi μ QM' := .inl ⟨z, rfl, hz, h⟩
theorem i_slT {l : List D} {lo hi : Option Int} (h : QM' (.tup (cutD l lo hi)) μ) : rdSl (.tup l) lo hi μ QM' := .inr (.inl ⟨l, rfl, h⟩)
theorem i_slL {l : List D} {lo hi : Option Int} (h : QM' (.lst (cutD l lo hi)) μ) : rdSl (.lst l) lo hi μ QM' := .inr (.inr ⟨l, (fun _ z => nomatch z), rfl, h⟩)
theorem i_slC {l : List D} {lo hi : Option Int} (h : QM' (.lst (cutD l lo hi)) μ) : rdSl (.scr l) lo hi μ QM' := .inr (.inr ⟨l, (fun _ z => nomatch z), rfl, h⟩)
theorem i_slR {p : Addr} {l : List D} {lo hi : Option Int} (hp : μ p = some (.lst l)) (h : QM' (.lst (cutD l lo hi)) μ) : rdSl (.ref p) lo hi μ QM' := .inr (.inr ⟨l, (fun _ z => nomatch z), seqOf_ref hp, h⟩)
theorem i_lenL {l : List D} (h : QM' (.int l.length) μ) : rdLen [.lst l] μ QM' := ⟨_, rfl, .inl ⟨l, rfl, h⟩⟩
theorem i_lenC {l : List D} (h : QM' (.int l.length) μ) : rdLen [.scr l] μ QM' := ⟨_, rfl, .inl ⟨l, rfl, h⟩⟩
theorem i_lenT {l : List D} (h : QM' (.int l.length) μ) : rdLen [.tup l] μ QM' := ⟨_, rfl, .inl ⟨l, rfl, h⟩⟩
theorem i_lenS {z : Str} (hz : z.length ≤ sizeLine) (h : QM' (.int z.length) μ) : rdLen [.str z] μ QM' := ⟨_, rfl, .inr ⟨z, rfl, hz, h⟩⟩
theorem i_lenR {p : Addr} {l : List D} (hp : μ p = some (.lst l)) (h : QM' (.int l.length) μ) : rdLen [.ref p] μ QM' := ⟨_, rfl, .inl ⟨l, seqOf_ref hp, h⟩⟩
theorem i_intI {i : Int} (h : QM' (.int i) μ) : rdInt [.int i] μ QM' := .inl ⟨i, rfl, h⟩
theorem i_intB {b : Bool} (h : QM' (.int (if b then 1 else 0)) μ) : rdInt [.bl b] μ QM' := .inr ⟨b, rfl, h⟩
theorem i_abs {i : Int} (h : QM' (.int (if i < 0 then -i else i)) μ) : rdAbs [.int i] μ QM' := ⟨i, rfl, h⟩
theorem i_maxL {d : D} {ns : List Int} (hl : lstOf μ d = some (ns.map .int)) (hn : 0 < ns.length) (h : ∀ M, M ∈ ns → (∀ b ∈ ns, b ≤ M) → QM' (.int M) μ) : rdMaxL [d] μ QM' := ⟨d, ns, rfl, hl, hn, h⟩
theorem i_minL {d : D} {ns : List Int} (hl : lstOf μ d = some (ns.map .int)) (hn : 0 < ns.length) (h : ∀ M, M ∈ ns → (∀ b ∈ ns, M ≤ b) → QM' (.int M) μ) : rdMinL [d] μ QM' := ⟨d, ns, rfl, hl, hn, h⟩
theorem i_sortI {d : D} {ns : List Int} (hl : lstOf μ d = some (ns.map .int)) (h : ∀ ns' : List Int, ns'.Perm ns → ns'.Pairwise (· ≤ ·) → QM' (.lst (ns'.map .int)) μ) : rdSortI [d] μ QM' := ⟨d, ns, rfl, hl, h⟩
theorem i_dicM (h : ∀ p, μ p = none → Q (.ref p) δ (updM μ p (.dct []))) : dDicM δ μ Q := h
/-- an entry of a dict -/
def GetK (x y : D) (μ : Mem) (R : D → Prop) : Prop := ∃ l k d, dicOf μ x = some l ∧ keyD y = some k ∧ valD l k = some d ∧ R d
theorem i_getK {da db : DE} (h : da δ μ fun x δ1 μ1 => db δ1 μ1 fun y δ2 μ2 => GetK x y μ2 fun d => Q d δ2 μ2) : dGetK da db δ μ Q := h
theorem get_k {x y d : D} {l : List (Key × D)} {k : Key} {R : D → Prop} (h1 : dicOf μ x = some l) (h2 : keyD y = some k) (h3 : valD l k = some d) (h : R d) : GetK x y μ R := ⟨l, k, d, h1, h2, h3, h⟩
theorem dicOf_ref {p : Addr} {l : List (Key × D)} (h : μ p = some (.dct l)) : dicOf μ (.ref p) = some l := by unfold dicOf; dsimp only; rw [h]
def PutK (x y d : D) (μ : Mem) (R : Mem → Prop) : Prop := ∃ p l k, x = .ref p ∧ μ p = some (.dct l) ∧ keyD y = some k ∧ l.length < sizeLine ∧ R (updM μ p (.dct (putKD l k d)))
theorem i_putK {da db de : DE} (h : de δ μ fun d δ1 μ1 => da δ1 μ1 fun x δ2 μ2 => db δ2 μ2 fun y δ3 μ3 => PutK x y d μ3 fun μ4 => nx δ3 μ4) : dPutK da db de ⟨nx, rt, bk, ct⟩ δ μ := h
theorem put_k {p : Addr} {y d : D} {l : List (Key × D)} {k : Key} {R : Mem → Prop} (h1 : μ p = some (.dct l)) (h2 : keyD y = some k) (h3 : l.length < 100000) (h : R (updM μ p (.dct (putKD l k d)))) : PutK (.ref p) y d μ R := ⟨p, l, k, rfl, h1, h2, Nat.lt_of_lt_of_le h3 (by decide), h⟩
theorem i_sortDI {d : D} {l : List (Key × D)} {ks : List Int} (h1 : dicOf μ d = some l) (h2 : l.map (·.1) = ks.map Sum.inl) (h3 : ks.length ≤ 100000) (h : ∀ ns : List Int, ns.Perm ks → ns.Pairwise (· ≤ ·) → QM' (.lst (ns.map .int)) μ) : rdSortDN [d] μ QM' := ⟨d, l, ks, rfl, h1, h2, h3, h⟩
theorem i_max2 {i j : Int} (h : QM' (.int (max i j)) μ) : rdMax2 [.int i, .int j] μ QM' := ⟨i, j, rfl, h⟩
theorem i_min2 {i j : Int} (h : QM' (.int (min i j)) μ) : rdMin2 [.int i, .int j] μ QM' := ⟨i, j, rfl, h⟩
theorem i_all {bs : List Bool} (h : QM' (.bl (bs.all id)) μ) : rdAll [.lst (bs.map .bl)] μ QM' := ⟨bs, rfl, h⟩
theorem i_listL {l : List D} (h : QM' (.lst l) μ) : rdList [.lst l] μ QM' := ⟨_, l, rfl, rfl, h⟩
theorem i_listC {l : List D} (h : QM' (.lst l) μ) : rdList [.scr l] μ QM' := ⟨_, l, rfl, rfl, h⟩
theorem i_listT {l : List D} (h : QM' (.lst l) μ) : rdList [.tup l] μ QM' := ⟨_, l, rfl, rfl, h⟩
theorem i_listR {p : Addr} {l : List D} (hp : μ p = some (.lst l)) (h : QM' (.lst l) μ) : rdList [.ref p] μ QM' := ⟨_, l, rfl, seqOf_ref hp, h⟩
theorem i_tupL {l : List D} (h : QM' (.tup l) μ) : rdTup [.lst l] μ QM' := ⟨_, l, rfl, rfl, h⟩
theorem i_tupC {l : List D} (h : QM' (.tup l) μ) : rdTup [.scr l] μ QM' := ⟨_, l, rfl, rfl, h⟩
theorem i_tupT {l : List D} (h : QM' (.tup l) μ) : rdTup [.tup l] μ QM' := ⟨_, l, rfl, rfl, h⟩
/-- a product of numbers below 2 ^ 200 -/
theorem cm2 {i j : Int} (h1 : -1606938044258990275541962092341162602522202993782792835301376 < i) (h2 : i < 1606938044258990275541962092341162602522202993782792835301376) (h3 : -1606938044258990275541962092341162602522202993782792835301376 < j) (h4 : j < 1606938044258990275541962092341162602522202993782792835301376) : CMulW i j := wide_mul (a := 200) (b := 200) (by omega) (by omega) (by decide) (by decide) (by decide)
theorem cd2 {i j : Int} (h1 : 0 < j) (h2 : j < 1606938044258990275541962092341162602522202993782792835301376) : CDivW i j := wide_div (b := 200) h1 (by omega) (by decide) (by decide)
theorem cp2 {i j : Int} (h1 : 0 ≤ j) (h2 : j ≤ 1000) (h3 : -9223372036854775808 < i) (h4 : i < 9223372036854775808) : CPow i j := ⟨h1, by omega, by omega⟩
/-! tests -/
theorem ite_d {c : Prop} [Decidable c] {A B : Prop} (h1 : c → A) (h2 : ¬ c → B) : if decide c = true then A else B := by
  by_cases h : c
  · rw [if_pos (decide_eq_true h)]; exact h1 h
  · rw [if_neg (by simp [h])]; exact h2 h
theorem ite_nd {c : Prop} [Decidable c] {A B : Prop} (h1 : ¬ c → A) (h2 : c → B) : if (!decide c) = true then A else B := by
  by_cases h : c
  · rw [if_neg (by simp [h])]; exact h2 h
  · rw [if_pos (by simp [h])]; exact h1 h
theorem ite_b {b : Bool} {A B : Prop} (h1 : b = true → A) (h2 : b = false → B) : if b = true then A else B := by
  cases b with
  | true => rw [if_pos rfl]; exact h1 rfl
  | false => rw [if_neg Bool.false_ne_true]; exact h2 rfl
theorem ite_nb {b : Bool} {A B : Prop} (h1 : b = false → A) (h2 : b = true → B) : if (!b) = true then A else B := by
  cases b with
  | true => rw [if_neg (by simp)]; exact h2 rfl
  | false => rw [if_pos (by simp)]; exact h1 rfl
theorem ite_t {b : Bool} {A B : Prop} (hb : b = true) (h : A) : if b = true then A else B := by rw [if_pos hb]; exact h
theorem ite_f {b : Bool} {A B : Prop} (hb : b = false) (h : B) : if b = true then A else B := by rw [hb, if_neg Bool.false_ne_true]; exact h
theorem ite_tt {A B : Prop} (h : A) : if true = true then A else B := by rw [if_pos rfl]; exact h
theorem ite_ff {A B : Prop} (h : B) : if false = true then A else B := by rw [if_neg Bool.false_ne_true]; exact h
theorem ite_nff {A B : Prop} (h : A) : if (!false) = true then A else B := by rw [if_pos (by simp)]; exact h
theorem ite_ntt {A B : Prop} (h : B) : if (!true) = true then A else B := by rw [if_neg (by simp)]; exact h
theorem i_neg {da : DE} (h : da δ μ fun x δ1 μ1 => ∃ i, x = .int i ∧ Q (.int (-i)) δ1 μ1) : dNeg da δ μ Q := h
theorem i_inO {neg : Bool} {da : DE} {i : Nat} (h : da δ μ fun x δ1 μ1 => ∃ l, δ1[i]? = some (.own (.lst l)) ∧ flatD x = true ∧ l.all flatD = true ∧ Q (.bl (if neg then !inD x l else inD x l)) δ1 μ1) : dInO neg da i δ μ Q := h
theorem i_inL {x : D} {l : List D} (h1 : flatD x = true) (h2 : l.all flatD = true) (h : QM' (.bl (inD x l)) μ) : rdIn false x (.lst l) μ QM' := ⟨l, rfl, h1, h2, h⟩
theorem i_inT {x : D} {l : List D} (h1 : flatD x = true) (h2 : l.all flatD = true) (h : QM' (.bl (inD x l)) μ) : rdIn false x (.tup l) μ QM' := ⟨l, rfl, h1, h2, h⟩
theorem i_notInL {x : D} {l : List D} (h1 : flatD x = true) (h2 : l.all flatD = true) (h : QM' (.bl (!inD x l)) μ) : rdIn true x (.lst l) μ QM' := ⟨l, rfl, h1, h2, h⟩
theorem i_notInT {x : D} {l : List D} (h1 : flatD x = true) (h2 : l.all flatD = true) (h : QM' (.bl (!inD x l)) μ) : rdIn true x (.tup l) μ QM' := ⟨l, rfl, h1, h2, h⟩
theorem i_BMs {r : D → List D → Mem → QM → Prop} {do_ : DE} {da : DA} (h : do_ δ μ fun x δ1 μ1 => isStr x ∧ da δ1 μ1 fun xs δ2 μ2 => r x xs μ2 fun d μ3 => Q d δ2 μ3) : dBMs r do_ da δ μ Q := h
theorem i_isStr {z : Str} {P : Prop} (h : P) : isStr (.str z) ∧ P := ⟨⟨z, rfl⟩, h⟩
theorem i_joinL {a : Str} {ys : List Str} (hz : (ys.map (·.length)).sum + ys.length * a.length ≤ 16777216) (h : QM' (.str (Txt.join a ys)) μ) : rdJoin (.str a) [.lst (ys.map .str)] μ QM' := ⟨a, _, ys, rfl, rfl, rfl, hz, h⟩
theorem i_isi {x : D} {T t : String} {b : Bool} (ht : tyD x = some t) (hk : kitB t T = some b) (h : QM' (.bl b) μ) : rdIsi [x, .ty T] μ QM' := ⟨x, T, t, b, rfl, ht, hk, h⟩
theorem kB_bb : kitB "bool" "bool" = some true := by decide +kernel
theorem kB_bi : kitB "bool" "int" = some true := by decide +kernel
theorem kB_ib : kitB "int" "bool" = some false := by decide +kernel
theorem kB_ii : kitB "int" "int" = some true := by decide +kernel
theorem kB_ss : kitB "str" "str" = some true := by decide +kernel
theorem kB_tt : kitB "tuple" "tuple" = some true := by decide +kernel
theorem kB_ll : kitB "list" "list" = some true := by decide +kernel
theorem i_isBB {b : Bool} (h : QM' (.bl true) μ) : rdIsi [.bl b, .ty "bool"] μ QM' := i_isi rfl kB_bb h
theorem i_isBI {b : Bool} (h : QM' (.bl true) μ) : rdIsi [.bl b, .ty "int"] μ QM' := i_isi rfl kB_bi h
theorem i_isIB {b : Int} (h : QM' (.bl false) μ) : rdIsi [.int b, .ty "bool"] μ QM' := i_isi rfl kB_ib h
theorem i_isII {b : Int} (h : QM' (.bl true) μ) : rdIsi [.int b, .ty "int"] μ QM' := i_isi rfl kB_ii h
theorem i_isSS {b : Str} (h : QM' (.bl true) μ) : rdIsi [.str b, .ty "str"] μ QM' := i_isi rfl kB_ss h
theorem i_isTT {b : List D} (h : QM' (.bl true) μ) : rdIsi [.tup b, .ty "tuple"] μ QM' := i_isi rfl kB_tt h
theorem i_isLL {b : List D} (h : QM' (.bl true) μ) : rdIsi [.lst b, .ty "list"] μ QM' := i_isi rfl kB_ll h
theorem i_setIxM {da db de : DE} (h : de δ μ fun d δ1 μ1 => da δ1 μ1 fun x δ2 μ2 => db δ2 μ2 fun y δ3 μ3 => ∃ p l k j, x = .ref p ∧ μ3 p = some (.lst l) ∧ y = .int k ∧ ixN l.length k = some j ∧ nx δ3 (updM μ3 p (.lst (l.set j d)))) : dSetIxM da db de ⟨nx, rt, bk, ct⟩ δ μ := h
theorem i_ixO {i : Nat} {db : DE} {m : MO} (e : δ[i]? = some (.own m)) (h : db δ μ fun y δ1 μ1 => ∃ l j d, δ1[i]? = some (.own (.lst l)) ∧ y = .int j ∧ atI l j = some d ∧ Q d δ1 μ1) : dIxO i db δ μ Q := ⟨⟨m, e⟩, h⟩
def SlO (i : Nat) (lo hi : Option Int) (δ : Ss) (μ : Mem) (Q : QE) : Prop := ∃ l, δ[i]? = some (.own (.lst l)) ∧ Q (.lst (cutD l lo hi)) δ μ
def IxO (i : Nat) (y : D) (δ : Ss) (μ : Mem) (Q : QE) : Prop := ∃ l j d, δ[i]? = some (.own (.lst l)) ∧ y = .int j ∧ atI l j = some d ∧ Q d δ μ
theorem i_lenO {i : Nat} {l : List D} (e : δ[i]? = some (.own (.lst l))) (h : Q (.int l.length) δ μ) : dLenO i δ μ Q := ⟨l, e, h⟩
def ParK (nx : Ss → Mem → Prop) (i j : Nat) (ds : List D) (δ : Ss) (μ : Mem) : Prop := ∃ x y, ds = [x, y] ∧ nx ((δ.set i (.val x)).set j (.val y)) μ
theorem i_par {i j : Nat} {da : DA} (h : da δ μ fun ds δ1 μ1 => ParK nx i j ds δ1 μ1) : dPar i j da ⟨nx, rt, bk, ct⟩ δ μ := h
theorem i_parK {i j : Nat} {x y : D} (h : nxSet (nxSet nx j (.val y)) i (.val x) δ μ) : ParK nx i j [x, y] δ μ := ⟨x, y, rfl, h⟩
def ParK3 (nx : Ss → Mem → Prop) (i j k : Nat) (ds : List D) (δ : Ss) (μ : Mem) : Prop := ∃ x y z, ds = [x, y, z] ∧ nx (((δ.set i (.val x)).set j (.val y)).set k (.val z)) μ
theorem i_par3 {i j k : Nat} {da : DA} (h : da δ μ fun ds δ1 μ1 => ParK3 nx i j k ds δ1 μ1) : dPar3 i j k da ⟨nx, rt, bk, ct⟩ δ μ := h
theorem i_parK3 {i j k : Nat} {x y z : D} (h : nxSet (nxSet (nxSet nx k (.val z)) j (.val y)) i (.val x) δ μ) : ParK3 nx i j k [x, y, z] δ μ := ⟨x, y, z, rfl, h⟩
theorem i_parF {i j : Nat} {df : DF} {db : DE} (h : df δ μ fun m δ1 μ1 => db δ1 μ1 fun y δ2 μ2 => nxSet (nxSet nx j (.val y)) i (.own m) δ2 μ2) : dParF i j df db ⟨nx, rt, bk, ct⟩ δ μ := h
theorem le_s {s : SL} {a b : Ss} : Le (s :: a) (s :: b) ↔ Le a b := by cases s <;> simp [Le]
theorem le_refl : ∀ a : Ss, Le a a
  | [] => trivial
  | s :: a => le_s.mpr (le_refl a)
def ForG (ds : List D) (G : Mem → Prop) (dg : DG) (db : DS) (nx : Ss → Mem → Prop) (rt : QM) (δ1 : Ss) (μ1 : Mem) : Prop := ∃ W : Nat → Ss → Mem → Prop, Wn (W 0) δ1 μ1 ∧ (∀ i δ μ, i ≤ ds.length → W i δ μ → G μ) ∧
  (∀ i d δ μ, ds[i]? = some d → W i δ μ → dg d δ μ fun δ2 μ2 => db ⟨Wn (W (i + 1)), rt, nx, Wn (W (i + 1))⟩ δ2 μ2) ∧ (∀ δ μ, W ds.length δ μ → nx δ μ)
theorem i_for {di : DI} {dg : DG} {db : DS} (h : di δ μ fun ds G δ1 μ1 => ForG ds G dg db nx rt δ1 μ1) : dFor di dg db ⟨nx, rt, bk, ct⟩ δ μ := h
/-- the loop by its word; W: the turn, the slots, the memory -/
theorem by_word {ds : List D} {dg : DG} {db : DS} (W : Nat → Ss → Mem → Prop) (h0 : W 0 δ μ) (hs : ∀ i d δ μ, i < ds.length → ds[i]? = some d → W i δ μ → dg d δ μ fun δ2 μ2 => db ⟨Wn (W (i + 1)), rt, nx, Wn (W (i + 1))⟩ δ2 μ2) (hd : ∀ δ μ, W ds.length δ μ → nx δ μ) :
    ForG ds (fun _ => True) dg db nx rt δ μ :=
  ⟨W, wn h0 (le_refl δ), fun _ _ _ _ _ => trivial, fun i d δ μ e w => hs i d δ μ (List.getElem?_eq_some_iff.mp e).1 e w, hd⟩
/-- .. slots may be forgotten first -/
theorem by_wl {ds : List D} {dg : DG} {db : DS} (W : Nat → Ss → Mem → Prop) (h0 : Wn (W 0) δ μ) (hs : ∀ i d δ μ, i < ds.length → ds[i]? = some d → W i δ μ → dg d δ μ fun δ2 μ2 => db ⟨Wn (W (i + 1)), rt, nx, Wn (W (i + 1))⟩ δ2 μ2) (hd : ∀ δ μ, W ds.length δ μ → nx δ μ) :
    ForG ds (fun _ => True) dg db nx rt δ μ := ⟨W, h0, fun _ _ _ _ _ => trivial, fun i d δ μ e w => hs i d δ μ (List.getElem?_eq_some_iff.mp e).1 e w, hd⟩
/-- .. over a list of the memory, which stays -/
theorem by_wg {ds : List D} {G : Mem → Prop} {dg : DG} {db : DS} (W : Nat → Ss → Mem → Prop) (hG : ∀ i δ μ, i ≤ ds.length → W i δ μ → G μ) (h0 : Wn (W 0) δ μ) (hs : ∀ i d δ μ, i < ds.length → ds[i]? = some d → W i δ μ → dg d δ μ fun δ2 μ2 => db ⟨Wn (W (i + 1)), rt, nx, Wn (W (i + 1))⟩ δ2 μ2) (hd : ∀ δ μ, W ds.length δ μ → nx δ μ) :
    ForG ds G dg db nx rt δ μ := ⟨W, h0, hG, fun i d δ μ e w => hs i d δ μ (List.getElem?_eq_some_iff.mp e).1 e w, hd⟩
def CellW (x : D) (μ : Mem) (R : List D → (Mem → Prop) → Prop) : Prop := ∃ p l, x = .ref p ∧ μ p = some (.lst l) ∧ R l (fun μ => μ p = some (.lst l))
theorem i_icell {de : DE} {R : List D → (Mem → Prop) → Ss → Mem → Prop} (h : de δ μ fun d δ1 μ1 => CellW d μ1 fun l G => R l G δ1 μ1) : diCell de δ μ R := h
theorem i_excell {p : Addr} {l : List D} {R : List D → (Mem → Prop) → Prop} (hp : μ p = some (.lst l)) (h : R l (fun μ => μ p = some (.lst l))) : CellW (.ref p) μ R := ⟨p, l, rfl, hp, h⟩
theorem i_iseq {de : DE} {R : List D → (Mem → Prop) → Ss → Mem → Prop} (h : de δ μ fun d δ1 μ1 => ∃ l, (d = .lst l ∨ d = .scr l) ∧ R l (fun _ => True) δ1 μ1) : diSeq de δ μ R := h
theorem i_itup {de : DE} {R : List D → (Mem → Prop) → Ss → Mem → Prop} (h : de δ μ fun d δ1 μ1 => ∃ l, d = .tup l ∧ R l (fun _ => True) δ1 μ1) : diTup de δ μ R := h
theorem i_exlst {a : List D} {P : List D → Prop} (h : P a) : ∃ l, (D.lst a = .lst l ∨ D.lst a = .scr l) ∧ P l := ⟨a, .inl rfl, h⟩
theorem i_exscr {a : List D} {P : List D → Prop} (h : P a) : ∃ l, (D.scr a = .lst l ∨ D.scr a = .scr l) ∧ P l := ⟨a, .inr rfl, h⟩
theorem i_extup {a : List D} {P : List D → Prop} (h : P a) : ∃ l, D.tup a = .tup l ∧ P l := ⟨a, rfl, h⟩
theorem i_istr {de : DE} {R : List D → (Mem → Prop) → Ss → Mem → Prop} (h : de δ μ fun d δ1 μ1 => ∃ z, d = .str z ∧ R (signs z) (fun _ => True) δ1 μ1) : diStr de δ μ R := h
theorem i_rng1 {da : DA} {R : List D → (Mem → Prop) → Ss → Mem → Prop} (h : da δ μ fun xs δ1 μ1 => ∃ j : Int, xs = [.int j] ∧ -(2 ^ 62) ≤ j ∧ j < 2 ^ 62 ∧ R (rangeD 0 j.toNat) (fun _ => True) δ1 μ1) : diRng1 da δ μ R := h
theorem i_rng2 {da : DA} {R : List D → (Mem → Prop) → Ss → Mem → Prop} (h : da δ μ fun xs δ1 μ1 => ∃ i j : Int, xs = [.int i, .int j] ∧ (-(2 ^ 62) ≤ i ∧ i < 2 ^ 62 ∧ -(2 ^ 62) ≤ j ∧ j < 2 ^ 62) ∧ R (rangeD i (j - i).toNat) (fun _ => True) δ1 μ1) : diRng2 da δ μ R := h
theorem i_exr1 {j : Int} {P : Int → Prop} (h1 : -(2 ^ 62) ≤ j) (h2 : j < 2 ^ 62) (h : P j) : ∃ k : Int, [D.int j] = [.int k] ∧ -(2 ^ 62) ≤ k ∧ k < 2 ^ 62 ∧ P k := ⟨j, rfl, h1, h2, h⟩
theorem i_exr2 {i j : Int} {P : Int → Int → Prop} (h1 : -(2 ^ 62) ≤ i ∧ i < 2 ^ 62 ∧ -(2 ^ 62) ≤ j ∧ j < 2 ^ 62) (h : P i j) : ∃ k l : Int, [D.int i, D.int j] = [.int k, .int l] ∧ (-(2 ^ 62) ≤ k ∧ k < 2 ^ 62 ∧ -(2 ^ 62) ≤ l ∧ l < 2 ^ 62) ∧ P k l := ⟨i, j, rfl, h1, h⟩
def LcG (ds : List D) (G : Mem → Prop) (dg : DG) (dt : DT) (de : DE) (vs : List Nat) (R : List D → Ss → Mem → Prop) (δ1 : Ss) (μ1 : Mem) : Prop := noOwn δ1 vs = true ∧ ∃ W : Nat → List D → Mem → Prop, W 0 [] μ1 ∧ (∀ i acc μ, i ≤ ds.length → W i acc μ → G μ) ∧
  (∀ i d acc μ, ds[i]? = some d → W i acc μ → dg d (wipeD δ1 vs) μ fun δ2 μ2 => wipeD δ2 vs = wipeD δ1 vs ∧ dt δ2 μ2 fun b δ3 μ3 => δ3 = δ2 ∧
    if b = true then de δ2 μ3 fun y δ4 μ4 => δ4 = δ2 ∧ acc.length < sizeLine ∧ W (i + 1) (acc ++ [y]) μ4 else W (i + 1) acc μ3) ∧ (∀ acc μ, W ds.length acc μ → R acc δ1 μ)
theorem i_lc {di : DI} {dg : DG} {dt : DT} {de : DE} {vs : List Nat} {R : MO → Ss → Mem → Prop} (h : di δ μ fun ds G δ1 μ1 => LcG ds G dg dt de vs (fun acc δ μ => R (.lst acc) δ μ) δ1 μ1) : fLc di dg dt de vs δ μ R := h
theorem i_iceLc {di : DI} {dg : DG} {dt : DT} {de : DE} {vs : List Nat} (h : di δ μ fun ds G δ1 μ1 => LcG ds G dg dt de vs (fun acc δ μ => Q (.lst acc) δ μ) δ1 μ1) : dIce (fLc di dg dt de vs) δ μ Q := h
/-- a comprehension by its word -/
theorem by_lc {ds : List D} {dg : DG} {dt : DT} {de : DE} {vs : List Nat} {R : List D → Ss → Mem → Prop} (W : Nat → List D → Mem → Prop) (hn : noOwn δ vs = true) (h0 : W 0 [] μ)
  (hs : ∀ i d acc μ, i < ds.length → ds[i]? = some d → W i acc μ → dg d (wipeD δ vs) μ fun δ2 μ2 => wipeD δ2 vs = wipeD δ vs ∧ dt δ2 μ2 fun b δ3 μ3 => δ3 = δ2 ∧
    if b = true then de δ2 μ3 fun y δ4 μ4 => δ4 = δ2 ∧ acc.length < sizeLine ∧ W (i + 1) (acc ++ [y]) μ4 else W (i + 1) acc μ3) (hd : ∀ acc μ, W ds.length acc μ → R acc δ μ) :
  LcG ds (fun _ => True) dg dt de vs R δ μ :=
  ⟨hn, W, h0, fun _ _ _ _ _ => trivial, fun i d acc μ e w => hs i d acc μ (List.getElem?_eq_some_iff.mp e).1 e w, hd⟩
theorem by_lg {ds : List D} {G : Mem → Prop} {dg : DG} {dt : DT} {de : DE} {vs : List Nat} {R : List D → Ss → Mem → Prop} (W : Nat → List D → Mem → Prop) (hG : ∀ i acc μ, i ≤ ds.length → W i acc μ → G μ) (hn : noOwn δ vs = true) (h0 : W 0 [] μ)
  (hs : ∀ i d acc μ, i < ds.length → ds[i]? = some d → W i acc μ → dg d (wipeD δ vs) μ fun δ2 μ2 => wipeD δ2 vs = wipeD δ vs ∧ dt δ2 μ2 fun b δ3 μ3 => δ3 = δ2 ∧
    if b = true then de δ2 μ3 fun y δ4 μ4 => δ4 = δ2 ∧ acc.length < sizeLine ∧ W (i + 1) (acc ++ [y]) μ4 else W (i + 1) acc μ3) (hd : ∀ acc μ, W ds.length acc μ → R acc δ μ) :
  LcG ds G dg dt de vs R δ μ := ⟨hn, W, h0, hG, fun i d acc μ e w => hs i d acc μ (List.getElem?_eq_some_iff.mp e).1 e w, hd⟩
theorem i_yes {R : Bool → Ss → Mem → Prop} (h : R true δ μ) : dYes δ μ R := h
theorem i_ss {a b : Ss} {P : Prop} (e : a = b) (h : P) : a = b ∧ P := ⟨e, h⟩
theorem i_rfl {a : Ss} {P : Prop} (h : P) : a = a ∧ P := ⟨rfl, h⟩
theorem i_sz {l n : Nat} {P : Prop} (e : Nat.ble l n = true) (h : P) : l ≤ n ∧ P := ⟨Nat.le_of_ble_eq_true e, h⟩
/-! specs by the number of arguments -/
def Sp0 (P : Mem → QM → DX → Prop) : DSp := fun ds μ Q E => ds = [] ∧ P μ Q E
def Sp1 (P : D → Mem → QM → DX → Prop) : DSp := fun ds μ Q E => ∃ a, ds = [a] ∧ P a μ Q E
def Sp2 (P : D → D → Mem → QM → DX → Prop) : DSp := fun ds μ Q E => ∃ a b, ds = [a, b] ∧ P a b μ Q E
def Sp3 (P : D → D → D → Mem → QM → DX → Prop) : DSp := fun ds μ Q E => ∃ a b c, ds = [a, b, c] ∧ P a b c μ Q E
def Sp4 (P : D → D → D → D → Mem → QM → DX → Prop) : DSp := fun ds μ Q E => ∃ a b c d, ds = [a, b, c, d] ∧ P a b c d μ Q E
def Sp6 (P : D → D → D → D → D → D → Mem → QM → DX → Prop) : DSp := fun ds μ Q E => ∃ a b c d e f, ds = [a, b, c, d, e, f] ∧ P a b c d e f μ Q E
def Sp7 (P : D → D → D → D → D → D → D → Mem → QM → DX → Prop) : DSp := fun ds μ Q E => ∃ a b c d e f g, ds = [a, b, c, d, e, f, g] ∧ P a b c d e f g μ Q E
def Sp5 (P : D → D → D → D → D → Mem → QM → DX → Prop) : DSp := fun ds μ Q E => ∃ a b c d e, ds = [a, b, c, d, e] ∧ P a b c d e μ Q E
/-! slots by place -/
theorem v_0 {d : D} {l : Ss} (h : Q d (.val d :: l) μ) : dVar 0 (.val d :: l) μ Q := ⟨d, rfl, h⟩
theorem v_1 {s0 : SL} {d : D} {l : Ss} (h : Q d (s0 :: .val d :: l) μ) : dVar 1 (s0 :: .val d :: l) μ Q := ⟨d, rfl, h⟩
theorem v_2 {s0 s1 : SL} {d : D} {l : Ss} (h : Q d (s0 :: s1 :: .val d :: l) μ) : dVar 2 (s0 :: s1 :: .val d :: l) μ Q := ⟨d, rfl, h⟩
theorem v_3 {s0 s1 s2 : SL} {d : D} {l : Ss} (h : Q d (s0 :: s1 :: s2 :: .val d :: l) μ) : dVar 3 (s0 :: s1 :: s2 :: .val d :: l) μ Q := ⟨d, rfl, h⟩
theorem v_4 {s0 s1 s2 s3 : SL} {d : D} {l : Ss} (h : Q d (s0 :: s1 :: s2 :: s3 :: .val d :: l) μ) : dVar 4 (s0 :: s1 :: s2 :: s3 :: .val d :: l) μ Q := ⟨d, rfl, h⟩
theorem v_5 {s0 s1 s2 s3 s4 : SL} {d : D} {l : Ss} (h : Q d (s0 :: s1 :: s2 :: s3 :: s4 :: .val d :: l) μ) : dVar 5 (s0 :: s1 :: s2 :: s3 :: s4 :: .val d :: l) μ Q := ⟨d, rfl, h⟩
theorem v_6 {s0 s1 s2 s3 s4 s5 : SL} {d : D} {l : Ss} (h : Q d (s0 :: s1 :: s2 :: s3 :: s4 :: s5 :: .val d :: l) μ) : dVar 6 (s0 :: s1 :: s2 :: s3 :: s4 :: s5 :: .val d :: l) μ Q := ⟨d, rfl, h⟩
theorem v_7 {s0 s1 s2 s3 s4 s5 s6 : SL} {d : D} {l : Ss} (h : Q d (s0 :: s1 :: s2 :: s3 :: s4 :: s5 :: s6 :: .val d :: l) μ) : dVar 7 (s0 :: s1 :: s2 :: s3 :: s4 :: s5 :: s6 :: .val d :: l) μ Q := ⟨d, rfl, h⟩
theorem v_8 {s0 s1 s2 s3 s4 s5 s6 s7 : SL} {d : D} {l : Ss} (h : Q d (s0 :: s1 :: s2 :: s3 :: s4 :: s5 :: s6 :: s7 :: .val d :: l) μ) : dVar 8 (s0 :: s1 :: s2 :: s3 :: s4 :: s5 :: s6 :: s7 :: .val d :: l) μ Q := ⟨d, rfl, h⟩
theorem v_9 {s0 s1 s2 s3 s4 s5 s6 s7 s8 : SL} {d : D} {l : Ss} (h : Q d (s0 :: s1 :: s2 :: s3 :: s4 :: s5 :: s6 :: s7 :: s8 :: .val d :: l) μ) : dVar 9 (s0 :: s1 :: s2 :: s3 :: s4 :: s5 :: s6 :: s7 :: s8 :: .val d :: l) μ Q := ⟨d, rfl, h⟩
theorem v_10 {s0 s1 s2 s3 s4 s5 s6 s7 s8 s9 : SL} {d : D} {l : Ss} (h : Q d (s0 :: s1 :: s2 :: s3 :: s4 :: s5 :: s6 :: s7 :: s8 :: s9 :: .val d :: l) μ) : dVar 10 (s0 :: s1 :: s2 :: s3 :: s4 :: s5 :: s6 :: s7 :: s8 :: s9 :: .val d :: l) μ Q := ⟨d, rfl, h⟩
theorem v_11 {s0 s1 s2 s3 s4 s5 s6 s7 s8 s9 s10 : SL} {d : D} {l : Ss} (h : Q d (s0 :: s1 :: s2 :: s3 :: s4 :: s5 :: s6 :: s7 :: s8 :: s9 :: s10 :: .val d :: l) μ) : dVar 11 (s0 :: s1 :: s2 :: s3 :: s4 :: s5 :: s6 :: s7 :: s8 :: s9 :: s10 :: .val d :: l) μ Q := ⟨d, rfl, h⟩
theorem vf_0 {a : List D} {l : Ss} (h : Q (.lst a) (.val (.lst a) :: l) μ) : dVarF 0 (.own (.lst a) :: l) μ Q := ⟨.lst a, rfl, h⟩
theorem vf_1 {s0 : SL} {a : List D} {l : Ss} (h : Q (.lst a) (s0 :: .val (.lst a) :: l) μ) : dVarF 1 (s0 :: .own (.lst a) :: l) μ Q := ⟨.lst a, rfl, h⟩
theorem vf_2 {s0 s1 : SL} {a : List D} {l : Ss} (h : Q (.lst a) (s0 :: s1 :: .val (.lst a) :: l) μ) : dVarF 2 (s0 :: s1 :: .own (.lst a) :: l) μ Q := ⟨.lst a, rfl, h⟩
theorem vf_3 {s0 s1 s2 : SL} {a : List D} {l : Ss} (h : Q (.lst a) (s0 :: s1 :: s2 :: .val (.lst a) :: l) μ) : dVarF 3 (s0 :: s1 :: s2 :: .own (.lst a) :: l) μ Q := ⟨.lst a, rfl, h⟩
theorem vf_4 {s0 s1 s2 s3 : SL} {a : List D} {l : Ss} (h : Q (.lst a) (s0 :: s1 :: s2 :: s3 :: .val (.lst a) :: l) μ) : dVarF 4 (s0 :: s1 :: s2 :: s3 :: .own (.lst a) :: l) μ Q := ⟨.lst a, rfl, h⟩
theorem vf_5 {s0 s1 s2 s3 s4 : SL} {a : List D} {l : Ss} (h : Q (.lst a) (s0 :: s1 :: s2 :: s3 :: s4 :: .val (.lst a) :: l) μ) : dVarF 5 (s0 :: s1 :: s2 :: s3 :: s4 :: .own (.lst a) :: l) μ Q := ⟨.lst a, rfl, h⟩
theorem vf_6 {s0 s1 s2 s3 s4 s5 : SL} {a : List D} {l : Ss} (h : Q (.lst a) (s0 :: s1 :: s2 :: s3 :: s4 :: s5 :: .val (.lst a) :: l) μ) : dVarF 6 (s0 :: s1 :: s2 :: s3 :: s4 :: s5 :: .own (.lst a) :: l) μ Q := ⟨.lst a, rfl, h⟩
theorem vf_7 {s0 s1 s2 s3 s4 s5 s6 : SL} {a : List D} {l : Ss} (h : Q (.lst a) (s0 :: s1 :: s2 :: s3 :: s4 :: s5 :: s6 :: .val (.lst a) :: l) μ) : dVarF 7 (s0 :: s1 :: s2 :: s3 :: s4 :: s5 :: s6 :: .own (.lst a) :: l) μ Q := ⟨.lst a, rfl, h⟩
theorem vf_8 {s0 s1 s2 s3 s4 s5 s6 s7 : SL} {a : List D} {l : Ss} (h : Q (.lst a) (s0 :: s1 :: s2 :: s3 :: s4 :: s5 :: s6 :: s7 :: .val (.lst a) :: l) μ) : dVarF 8 (s0 :: s1 :: s2 :: s3 :: s4 :: s5 :: s6 :: s7 :: .own (.lst a) :: l) μ Q := ⟨.lst a, rfl, h⟩
theorem vf_9 {s0 s1 s2 s3 s4 s5 s6 s7 s8 : SL} {a : List D} {l : Ss} (h : Q (.lst a) (s0 :: s1 :: s2 :: s3 :: s4 :: s5 :: s6 :: s7 :: s8 :: .val (.lst a) :: l) μ) : dVarF 9 (s0 :: s1 :: s2 :: s3 :: s4 :: s5 :: s6 :: s7 :: s8 :: .own (.lst a) :: l) μ Q := ⟨.lst a, rfl, h⟩
theorem vf_10 {s0 s1 s2 s3 s4 s5 s6 s7 s8 s9 : SL} {a : List D} {l : Ss} (h : Q (.lst a) (s0 :: s1 :: s2 :: s3 :: s4 :: s5 :: s6 :: s7 :: s8 :: s9 :: .val (.lst a) :: l) μ) : dVarF 10 (s0 :: s1 :: s2 :: s3 :: s4 :: s5 :: s6 :: s7 :: s8 :: s9 :: .own (.lst a) :: l) μ Q := ⟨.lst a, rfl, h⟩
theorem vf_11 {s0 s1 s2 s3 s4 s5 s6 s7 s8 s9 s10 : SL} {a : List D} {l : Ss} (h : Q (.lst a) (s0 :: s1 :: s2 :: s3 :: s4 :: s5 :: s6 :: s7 :: s8 :: s9 :: s10 :: .val (.lst a) :: l) μ) : dVarF 11 (s0 :: s1 :: s2 :: s3 :: s4 :: s5 :: s6 :: s7 :: s8 :: s9 :: s10 :: .own (.lst a) :: l) μ Q := ⟨.lst a, rfl, h⟩
theorem vd_0 {a : List (Key × D)} {l : Ss} (h : Q (.dct a) (.val (.dct a) :: l) μ) : dVarF 0 (.own (.dct a) :: l) μ Q := ⟨.dct a, rfl, h⟩
theorem vd_1 {s0 : SL} {a : List (Key × D)} {l : Ss} (h : Q (.dct a) (s0 :: .val (.dct a) :: l) μ) : dVarF 1 (s0 :: .own (.dct a) :: l) μ Q := ⟨.dct a, rfl, h⟩
theorem vd_2 {s0 s1 : SL} {a : List (Key × D)} {l : Ss} (h : Q (.dct a) (s0 :: s1 :: .val (.dct a) :: l) μ) : dVarF 2 (s0 :: s1 :: .own (.dct a) :: l) μ Q := ⟨.dct a, rfl, h⟩
theorem vd_3 {s0 s1 s2 : SL} {a : List (Key × D)} {l : Ss} (h : Q (.dct a) (s0 :: s1 :: s2 :: .val (.dct a) :: l) μ) : dVarF 3 (s0 :: s1 :: s2 :: .own (.dct a) :: l) μ Q := ⟨.dct a, rfl, h⟩
theorem vd_4 {s0 s1 s2 s3 : SL} {a : List (Key × D)} {l : Ss} (h : Q (.dct a) (s0 :: s1 :: s2 :: s3 :: .val (.dct a) :: l) μ) : dVarF 4 (s0 :: s1 :: s2 :: s3 :: .own (.dct a) :: l) μ Q := ⟨.dct a, rfl, h⟩
theorem vd_5 {s0 s1 s2 s3 s4 : SL} {a : List (Key × D)} {l : Ss} (h : Q (.dct a) (s0 :: s1 :: s2 :: s3 :: s4 :: .val (.dct a) :: l) μ) : dVarF 5 (s0 :: s1 :: s2 :: s3 :: s4 :: .own (.dct a) :: l) μ Q := ⟨.dct a, rfl, h⟩
theorem vd_6 {s0 s1 s2 s3 s4 s5 : SL} {a : List (Key × D)} {l : Ss} (h : Q (.dct a) (s0 :: s1 :: s2 :: s3 :: s4 :: s5 :: .val (.dct a) :: l) μ) : dVarF 6 (s0 :: s1 :: s2 :: s3 :: s4 :: s5 :: .own (.dct a) :: l) μ Q := ⟨.dct a, rfl, h⟩
theorem vd_7 {s0 s1 s2 s3 s4 s5 s6 : SL} {a : List (Key × D)} {l : Ss} (h : Q (.dct a) (s0 :: s1 :: s2 :: s3 :: s4 :: s5 :: s6 :: .val (.dct a) :: l) μ) : dVarF 7 (s0 :: s1 :: s2 :: s3 :: s4 :: s5 :: s6 :: .own (.dct a) :: l) μ Q := ⟨.dct a, rfl, h⟩
theorem vd_8 {s0 s1 s2 s3 s4 s5 s6 s7 : SL} {a : List (Key × D)} {l : Ss} (h : Q (.dct a) (s0 :: s1 :: s2 :: s3 :: s4 :: s5 :: s6 :: s7 :: .val (.dct a) :: l) μ) : dVarF 8 (s0 :: s1 :: s2 :: s3 :: s4 :: s5 :: s6 :: s7 :: .own (.dct a) :: l) μ Q := ⟨.dct a, rfl, h⟩
theorem vd_9 {s0 s1 s2 s3 s4 s5 s6 s7 s8 : SL} {a : List (Key × D)} {l : Ss} (h : Q (.dct a) (s0 :: s1 :: s2 :: s3 :: s4 :: s5 :: s6 :: s7 :: s8 :: .val (.dct a) :: l) μ) : dVarF 9 (s0 :: s1 :: s2 :: s3 :: s4 :: s5 :: s6 :: s7 :: s8 :: .own (.dct a) :: l) μ Q := ⟨.dct a, rfl, h⟩
theorem vd_10 {s0 s1 s2 s3 s4 s5 s6 s7 s8 s9 : SL} {a : List (Key × D)} {l : Ss} (h : Q (.dct a) (s0 :: s1 :: s2 :: s3 :: s4 :: s5 :: s6 :: s7 :: s8 :: s9 :: .val (.dct a) :: l) μ) : dVarF 10 (s0 :: s1 :: s2 :: s3 :: s4 :: s5 :: s6 :: s7 :: s8 :: s9 :: .own (.dct a) :: l) μ Q := ⟨.dct a, rfl, h⟩
theorem vd_11 {s0 s1 s2 s3 s4 s5 s6 s7 s8 s9 s10 : SL} {a : List (Key × D)} {l : Ss} (h : Q (.dct a) (s0 :: s1 :: s2 :: s3 :: s4 :: s5 :: s6 :: s7 :: s8 :: s9 :: s10 :: .val (.dct a) :: l) μ) : dVarF 11 (s0 :: s1 :: s2 :: s3 :: s4 :: s5 :: s6 :: s7 :: s8 :: s9 :: s10 :: .own (.dct a) :: l) μ Q := ⟨.dct a, rfl, h⟩
theorem n_0 {P : Ss → Mem → Prop} {s x : SL} {l : Ss} (h : P (x :: l) μ) : nxSet P 0 x (s :: l) μ := h
theorem n_1 {P : Ss → Mem → Prop} {s0 : SL} {s x : SL} {l : Ss} (h : P (s0 :: x :: l) μ) : nxSet P 1 x (s0 :: s :: l) μ := h
theorem n_2 {P : Ss → Mem → Prop} {s0 s1 : SL} {s x : SL} {l : Ss} (h : P (s0 :: s1 :: x :: l) μ) : nxSet P 2 x (s0 :: s1 :: s :: l) μ := h
theorem n_3 {P : Ss → Mem → Prop} {s0 s1 s2 : SL} {s x : SL} {l : Ss} (h : P (s0 :: s1 :: s2 :: x :: l) μ) : nxSet P 3 x (s0 :: s1 :: s2 :: s :: l) μ := h
theorem n_4 {P : Ss → Mem → Prop} {s0 s1 s2 s3 : SL} {s x : SL} {l : Ss} (h : P (s0 :: s1 :: s2 :: s3 :: x :: l) μ) : nxSet P 4 x (s0 :: s1 :: s2 :: s3 :: s :: l) μ := h
theorem n_5 {P : Ss → Mem → Prop} {s0 s1 s2 s3 s4 : SL} {s x : SL} {l : Ss} (h : P (s0 :: s1 :: s2 :: s3 :: s4 :: x :: l) μ) : nxSet P 5 x (s0 :: s1 :: s2 :: s3 :: s4 :: s :: l) μ := h
theorem n_6 {P : Ss → Mem → Prop} {s0 s1 s2 s3 s4 s5 : SL} {s x : SL} {l : Ss} (h : P (s0 :: s1 :: s2 :: s3 :: s4 :: s5 :: x :: l) μ) : nxSet P 6 x (s0 :: s1 :: s2 :: s3 :: s4 :: s5 :: s :: l) μ := h
theorem n_7 {P : Ss → Mem → Prop} {s0 s1 s2 s3 s4 s5 s6 : SL} {s x : SL} {l : Ss} (h : P (s0 :: s1 :: s2 :: s3 :: s4 :: s5 :: s6 :: x :: l) μ) : nxSet P 7 x (s0 :: s1 :: s2 :: s3 :: s4 :: s5 :: s6 :: s :: l) μ := h
theorem n_8 {P : Ss → Mem → Prop} {s0 s1 s2 s3 s4 s5 s6 s7 : SL} {s x : SL} {l : Ss} (h : P (s0 :: s1 :: s2 :: s3 :: s4 :: s5 :: s6 :: s7 :: x :: l) μ) : nxSet P 8 x (s0 :: s1 :: s2 :: s3 :: s4 :: s5 :: s6 :: s7 :: s :: l) μ := h
theorem n_9 {P : Ss → Mem → Prop} {s0 s1 s2 s3 s4 s5 s6 s7 s8 : SL} {s x : SL} {l : Ss} (h : P (s0 :: s1 :: s2 :: s3 :: s4 :: s5 :: s6 :: s7 :: s8 :: x :: l) μ) : nxSet P 9 x (s0 :: s1 :: s2 :: s3 :: s4 :: s5 :: s6 :: s7 :: s8 :: s :: l) μ := h
theorem n_10 {P : Ss → Mem → Prop} {s0 s1 s2 s3 s4 s5 s6 s7 s8 s9 : SL} {s x : SL} {l : Ss} (h : P (s0 :: s1 :: s2 :: s3 :: s4 :: s5 :: s6 :: s7 :: s8 :: s9 :: x :: l) μ) : nxSet P 10 x (s0 :: s1 :: s2 :: s3 :: s4 :: s5 :: s6 :: s7 :: s8 :: s9 :: s :: l) μ := h
theorem n_11 {P : Ss → Mem → Prop} {s0 s1 s2 s3 s4 s5 s6 s7 s8 s9 s10 : SL} {s x : SL} {l : Ss} (h : P (s0 :: s1 :: s2 :: s3 :: s4 :: s5 :: s6 :: s7 :: s8 :: s9 :: s10 :: x :: l) μ) : nxSet P 11 x (s0 :: s1 :: s2 :: s3 :: s4 :: s5 :: s6 :: s7 :: s8 :: s9 :: s10 :: s :: l) μ := h
theorem app_0 {de : DE} {a : List D} {l : Ss} (h : de (.own (.lst a) :: l) μ fun d δ1 μ1 => apNx nx 0 d δ1 μ1) : dApp 0 de ⟨nx, rt, bk, ct⟩ (.own (.lst a) :: l) μ := ⟨⟨a, rfl⟩, h⟩
theorem app_1 {de : DE} {s0 : SL} {a : List D} {l : Ss} (h : de (s0 :: .own (.lst a) :: l) μ fun d δ1 μ1 => apNx nx 1 d δ1 μ1) : dApp 1 de ⟨nx, rt, bk, ct⟩ (s0 :: .own (.lst a) :: l) μ := ⟨⟨a, rfl⟩, h⟩
theorem app_2 {de : DE} {s0 s1 : SL} {a : List D} {l : Ss} (h : de (s0 :: s1 :: .own (.lst a) :: l) μ fun d δ1 μ1 => apNx nx 2 d δ1 μ1) : dApp 2 de ⟨nx, rt, bk, ct⟩ (s0 :: s1 :: .own (.lst a) :: l) μ := ⟨⟨a, rfl⟩, h⟩
theorem app_3 {de : DE} {s0 s1 s2 : SL} {a : List D} {l : Ss} (h : de (s0 :: s1 :: s2 :: .own (.lst a) :: l) μ fun d δ1 μ1 => apNx nx 3 d δ1 μ1) : dApp 3 de ⟨nx, rt, bk, ct⟩ (s0 :: s1 :: s2 :: .own (.lst a) :: l) μ := ⟨⟨a, rfl⟩, h⟩
theorem app_4 {de : DE} {s0 s1 s2 s3 : SL} {a : List D} {l : Ss} (h : de (s0 :: s1 :: s2 :: s3 :: .own (.lst a) :: l) μ fun d δ1 μ1 => apNx nx 4 d δ1 μ1) : dApp 4 de ⟨nx, rt, bk, ct⟩ (s0 :: s1 :: s2 :: s3 :: .own (.lst a) :: l) μ := ⟨⟨a, rfl⟩, h⟩
theorem app_5 {de : DE} {s0 s1 s2 s3 s4 : SL} {a : List D} {l : Ss} (h : de (s0 :: s1 :: s2 :: s3 :: s4 :: .own (.lst a) :: l) μ fun d δ1 μ1 => apNx nx 5 d δ1 μ1) : dApp 5 de ⟨nx, rt, bk, ct⟩ (s0 :: s1 :: s2 :: s3 :: s4 :: .own (.lst a) :: l) μ := ⟨⟨a, rfl⟩, h⟩
theorem app_6 {de : DE} {s0 s1 s2 s3 s4 s5 : SL} {a : List D} {l : Ss} (h : de (s0 :: s1 :: s2 :: s3 :: s4 :: s5 :: .own (.lst a) :: l) μ fun d δ1 μ1 => apNx nx 6 d δ1 μ1) : dApp 6 de ⟨nx, rt, bk, ct⟩ (s0 :: s1 :: s2 :: s3 :: s4 :: s5 :: .own (.lst a) :: l) μ := ⟨⟨a, rfl⟩, h⟩
theorem app_7 {de : DE} {s0 s1 s2 s3 s4 s5 s6 : SL} {a : List D} {l : Ss} (h : de (s0 :: s1 :: s2 :: s3 :: s4 :: s5 :: s6 :: .own (.lst a) :: l) μ fun d δ1 μ1 => apNx nx 7 d δ1 μ1) : dApp 7 de ⟨nx, rt, bk, ct⟩ (s0 :: s1 :: s2 :: s3 :: s4 :: s5 :: s6 :: .own (.lst a) :: l) μ := ⟨⟨a, rfl⟩, h⟩
theorem app_8 {de : DE} {s0 s1 s2 s3 s4 s5 s6 s7 : SL} {a : List D} {l : Ss} (h : de (s0 :: s1 :: s2 :: s3 :: s4 :: s5 :: s6 :: s7 :: .own (.lst a) :: l) μ fun d δ1 μ1 => apNx nx 8 d δ1 μ1) : dApp 8 de ⟨nx, rt, bk, ct⟩ (s0 :: s1 :: s2 :: s3 :: s4 :: s5 :: s6 :: s7 :: .own (.lst a) :: l) μ := ⟨⟨a, rfl⟩, h⟩
theorem app_9 {de : DE} {s0 s1 s2 s3 s4 s5 s6 s7 s8 : SL} {a : List D} {l : Ss} (h : de (s0 :: s1 :: s2 :: s3 :: s4 :: s5 :: s6 :: s7 :: s8 :: .own (.lst a) :: l) μ fun d δ1 μ1 => apNx nx 9 d δ1 μ1) : dApp 9 de ⟨nx, rt, bk, ct⟩ (s0 :: s1 :: s2 :: s3 :: s4 :: s5 :: s6 :: s7 :: s8 :: .own (.lst a) :: l) μ := ⟨⟨a, rfl⟩, h⟩
theorem app_10 {de : DE} {s0 s1 s2 s3 s4 s5 s6 s7 s8 s9 : SL} {a : List D} {l : Ss} (h : de (s0 :: s1 :: s2 :: s3 :: s4 :: s5 :: s6 :: s7 :: s8 :: s9 :: .own (.lst a) :: l) μ fun d δ1 μ1 => apNx nx 10 d δ1 μ1) : dApp 10 de ⟨nx, rt, bk, ct⟩ (s0 :: s1 :: s2 :: s3 :: s4 :: s5 :: s6 :: s7 :: s8 :: s9 :: .own (.lst a) :: l) μ := ⟨⟨a, rfl⟩, h⟩
theorem app_11 {de : DE} {s0 s1 s2 s3 s4 s5 s6 s7 s8 s9 s10 : SL} {a : List D} {l : Ss} (h : de (s0 :: s1 :: s2 :: s3 :: s4 :: s5 :: s6 :: s7 :: s8 :: s9 :: s10 :: .own (.lst a) :: l) μ fun d δ1 μ1 => apNx nx 11 d δ1 μ1) : dApp 11 de ⟨nx, rt, bk, ct⟩ (s0 :: s1 :: s2 :: s3 :: s4 :: s5 :: s6 :: s7 :: s8 :: s9 :: s10 :: .own (.lst a) :: l) μ := ⟨⟨a, rfl⟩, h⟩
theorem apd_0 {R : Ss → Mem → Prop} {a : List D} {d : D} {l : Ss} (hz : a.length < sizeLine) (h : R (.own (.lst (a ++ [d])) :: l) μ) : apNx R 0 d (.own (.lst a) :: l) μ := ⟨a, rfl, hz, h⟩
theorem apd_1 {R : Ss → Mem → Prop} {s0 : SL} {a : List D} {d : D} {l : Ss} (hz : a.length < sizeLine) (h : R (s0 :: .own (.lst (a ++ [d])) :: l) μ) : apNx R 1 d (s0 :: .own (.lst a) :: l) μ := ⟨a, rfl, hz, h⟩
theorem apd_2 {R : Ss → Mem → Prop} {s0 s1 : SL} {a : List D} {d : D} {l : Ss} (hz : a.length < sizeLine) (h : R (s0 :: s1 :: .own (.lst (a ++ [d])) :: l) μ) : apNx R 2 d (s0 :: s1 :: .own (.lst a) :: l) μ := ⟨a, rfl, hz, h⟩
theorem apd_3 {R : Ss → Mem → Prop} {s0 s1 s2 : SL} {a : List D} {d : D} {l : Ss} (hz : a.length < sizeLine) (h : R (s0 :: s1 :: s2 :: .own (.lst (a ++ [d])) :: l) μ) : apNx R 3 d (s0 :: s1 :: s2 :: .own (.lst a) :: l) μ := ⟨a, rfl, hz, h⟩
theorem apd_4 {R : Ss → Mem → Prop} {s0 s1 s2 s3 : SL} {a : List D} {d : D} {l : Ss} (hz : a.length < sizeLine) (h : R (s0 :: s1 :: s2 :: s3 :: .own (.lst (a ++ [d])) :: l) μ) : apNx R 4 d (s0 :: s1 :: s2 :: s3 :: .own (.lst a) :: l) μ := ⟨a, rfl, hz, h⟩
theorem apd_5 {R : Ss → Mem → Prop} {s0 s1 s2 s3 s4 : SL} {a : List D} {d : D} {l : Ss} (hz : a.length < sizeLine) (h : R (s0 :: s1 :: s2 :: s3 :: s4 :: .own (.lst (a ++ [d])) :: l) μ) : apNx R 5 d (s0 :: s1 :: s2 :: s3 :: s4 :: .own (.lst a) :: l) μ := ⟨a, rfl, hz, h⟩
theorem apd_6 {R : Ss → Mem → Prop} {s0 s1 s2 s3 s4 s5 : SL} {a : List D} {d : D} {l : Ss} (hz : a.length < sizeLine) (h : R (s0 :: s1 :: s2 :: s3 :: s4 :: s5 :: .own (.lst (a ++ [d])) :: l) μ) : apNx R 6 d (s0 :: s1 :: s2 :: s3 :: s4 :: s5 :: .own (.lst a) :: l) μ := ⟨a, rfl, hz, h⟩
theorem apd_7 {R : Ss → Mem → Prop} {s0 s1 s2 s3 s4 s5 s6 : SL} {a : List D} {d : D} {l : Ss} (hz : a.length < sizeLine) (h : R (s0 :: s1 :: s2 :: s3 :: s4 :: s5 :: s6 :: .own (.lst (a ++ [d])) :: l) μ) : apNx R 7 d (s0 :: s1 :: s2 :: s3 :: s4 :: s5 :: s6 :: .own (.lst a) :: l) μ := ⟨a, rfl, hz, h⟩
theorem apd_8 {R : Ss → Mem → Prop} {s0 s1 s2 s3 s4 s5 s6 s7 : SL} {a : List D} {d : D} {l : Ss} (hz : a.length < sizeLine) (h : R (s0 :: s1 :: s2 :: s3 :: s4 :: s5 :: s6 :: s7 :: .own (.lst (a ++ [d])) :: l) μ) : apNx R 8 d (s0 :: s1 :: s2 :: s3 :: s4 :: s5 :: s6 :: s7 :: .own (.lst a) :: l) μ := ⟨a, rfl, hz, h⟩
theorem apd_9 {R : Ss → Mem → Prop} {s0 s1 s2 s3 s4 s5 s6 s7 s8 : SL} {a : List D} {d : D} {l : Ss} (hz : a.length < sizeLine) (h : R (s0 :: s1 :: s2 :: s3 :: s4 :: s5 :: s6 :: s7 :: s8 :: .own (.lst (a ++ [d])) :: l) μ) : apNx R 9 d (s0 :: s1 :: s2 :: s3 :: s4 :: s5 :: s6 :: s7 :: s8 :: .own (.lst a) :: l) μ := ⟨a, rfl, hz, h⟩
theorem apd_10 {R : Ss → Mem → Prop} {s0 s1 s2 s3 s4 s5 s6 s7 s8 s9 : SL} {a : List D} {d : D} {l : Ss} (hz : a.length < sizeLine) (h : R (s0 :: s1 :: s2 :: s3 :: s4 :: s5 :: s6 :: s7 :: s8 :: s9 :: .own (.lst (a ++ [d])) :: l) μ) : apNx R 10 d (s0 :: s1 :: s2 :: s3 :: s4 :: s5 :: s6 :: s7 :: s8 :: s9 :: .own (.lst a) :: l) μ := ⟨a, rfl, hz, h⟩
theorem apd_11 {R : Ss → Mem → Prop} {s0 s1 s2 s3 s4 s5 s6 s7 s8 s9 s10 : SL} {a : List D} {d : D} {l : Ss} (hz : a.length < sizeLine) (h : R (s0 :: s1 :: s2 :: s3 :: s4 :: s5 :: s6 :: s7 :: s8 :: s9 :: s10 :: .own (.lst (a ++ [d])) :: l) μ) : apNx R 11 d (s0 :: s1 :: s2 :: s3 :: s4 :: s5 :: s6 :: s7 :: s8 :: s9 :: s10 :: .own (.lst a) :: l) μ := ⟨a, rfl, hz, h⟩
theorem aug_0 {de : DE} {f : Int → Int → Int} {n : Int} {l : Ss} (h : de (.val (.int n) :: l) μ fun d δ1 μ1 => ∃ m, d = .int m ∧ nxSet nx 0 (.val (.int (f n m))) δ1 μ1) : dAug 0 de f ⟨nx, rt, bk, ct⟩ (.val (.int n) :: l) μ := ⟨n, rfl, h⟩
theorem aug_1 {de : DE} {f : Int → Int → Int} {s0 : SL} {n : Int} {l : Ss} (h : de (s0 :: .val (.int n) :: l) μ fun d δ1 μ1 => ∃ m, d = .int m ∧ nxSet nx 1 (.val (.int (f n m))) δ1 μ1) : dAug 1 de f ⟨nx, rt, bk, ct⟩ (s0 :: .val (.int n) :: l) μ := ⟨n, rfl, h⟩
theorem aug_2 {de : DE} {f : Int → Int → Int} {s0 s1 : SL} {n : Int} {l : Ss} (h : de (s0 :: s1 :: .val (.int n) :: l) μ fun d δ1 μ1 => ∃ m, d = .int m ∧ nxSet nx 2 (.val (.int (f n m))) δ1 μ1) : dAug 2 de f ⟨nx, rt, bk, ct⟩ (s0 :: s1 :: .val (.int n) :: l) μ := ⟨n, rfl, h⟩
theorem aug_3 {de : DE} {f : Int → Int → Int} {s0 s1 s2 : SL} {n : Int} {l : Ss} (h : de (s0 :: s1 :: s2 :: .val (.int n) :: l) μ fun d δ1 μ1 => ∃ m, d = .int m ∧ nxSet nx 3 (.val (.int (f n m))) δ1 μ1) : dAug 3 de f ⟨nx, rt, bk, ct⟩ (s0 :: s1 :: s2 :: .val (.int n) :: l) μ := ⟨n, rfl, h⟩
theorem aug_4 {de : DE} {f : Int → Int → Int} {s0 s1 s2 s3 : SL} {n : Int} {l : Ss} (h : de (s0 :: s1 :: s2 :: s3 :: .val (.int n) :: l) μ fun d δ1 μ1 => ∃ m, d = .int m ∧ nxSet nx 4 (.val (.int (f n m))) δ1 μ1) : dAug 4 de f ⟨nx, rt, bk, ct⟩ (s0 :: s1 :: s2 :: s3 :: .val (.int n) :: l) μ := ⟨n, rfl, h⟩
theorem aug_5 {de : DE} {f : Int → Int → Int} {s0 s1 s2 s3 s4 : SL} {n : Int} {l : Ss} (h : de (s0 :: s1 :: s2 :: s3 :: s4 :: .val (.int n) :: l) μ fun d δ1 μ1 => ∃ m, d = .int m ∧ nxSet nx 5 (.val (.int (f n m))) δ1 μ1) : dAug 5 de f ⟨nx, rt, bk, ct⟩ (s0 :: s1 :: s2 :: s3 :: s4 :: .val (.int n) :: l) μ := ⟨n, rfl, h⟩
theorem aug_6 {de : DE} {f : Int → Int → Int} {s0 s1 s2 s3 s4 s5 : SL} {n : Int} {l : Ss} (h : de (s0 :: s1 :: s2 :: s3 :: s4 :: s5 :: .val (.int n) :: l) μ fun d δ1 μ1 => ∃ m, d = .int m ∧ nxSet nx 6 (.val (.int (f n m))) δ1 μ1) : dAug 6 de f ⟨nx, rt, bk, ct⟩ (s0 :: s1 :: s2 :: s3 :: s4 :: s5 :: .val (.int n) :: l) μ := ⟨n, rfl, h⟩
theorem aug_7 {de : DE} {f : Int → Int → Int} {s0 s1 s2 s3 s4 s5 s6 : SL} {n : Int} {l : Ss} (h : de (s0 :: s1 :: s2 :: s3 :: s4 :: s5 :: s6 :: .val (.int n) :: l) μ fun d δ1 μ1 => ∃ m, d = .int m ∧ nxSet nx 7 (.val (.int (f n m))) δ1 μ1) : dAug 7 de f ⟨nx, rt, bk, ct⟩ (s0 :: s1 :: s2 :: s3 :: s4 :: s5 :: s6 :: .val (.int n) :: l) μ := ⟨n, rfl, h⟩
theorem aug_8 {de : DE} {f : Int → Int → Int} {s0 s1 s2 s3 s4 s5 s6 s7 : SL} {n : Int} {l : Ss} (h : de (s0 :: s1 :: s2 :: s3 :: s4 :: s5 :: s6 :: s7 :: .val (.int n) :: l) μ fun d δ1 μ1 => ∃ m, d = .int m ∧ nxSet nx 8 (.val (.int (f n m))) δ1 μ1) : dAug 8 de f ⟨nx, rt, bk, ct⟩ (s0 :: s1 :: s2 :: s3 :: s4 :: s5 :: s6 :: s7 :: .val (.int n) :: l) μ := ⟨n, rfl, h⟩
theorem aug_9 {de : DE} {f : Int → Int → Int} {s0 s1 s2 s3 s4 s5 s6 s7 s8 : SL} {n : Int} {l : Ss} (h : de (s0 :: s1 :: s2 :: s3 :: s4 :: s5 :: s6 :: s7 :: s8 :: .val (.int n) :: l) μ fun d δ1 μ1 => ∃ m, d = .int m ∧ nxSet nx 9 (.val (.int (f n m))) δ1 μ1) : dAug 9 de f ⟨nx, rt, bk, ct⟩ (s0 :: s1 :: s2 :: s3 :: s4 :: s5 :: s6 :: s7 :: s8 :: .val (.int n) :: l) μ := ⟨n, rfl, h⟩
theorem aug_10 {de : DE} {f : Int → Int → Int} {s0 s1 s2 s3 s4 s5 s6 s7 s8 s9 : SL} {n : Int} {l : Ss} (h : de (s0 :: s1 :: s2 :: s3 :: s4 :: s5 :: s6 :: s7 :: s8 :: s9 :: .val (.int n) :: l) μ fun d δ1 μ1 => ∃ m, d = .int m ∧ nxSet nx 10 (.val (.int (f n m))) δ1 μ1) : dAug 10 de f ⟨nx, rt, bk, ct⟩ (s0 :: s1 :: s2 :: s3 :: s4 :: s5 :: s6 :: s7 :: s8 :: s9 :: .val (.int n) :: l) μ := ⟨n, rfl, h⟩
theorem aug_11 {de : DE} {f : Int → Int → Int} {s0 s1 s2 s3 s4 s5 s6 s7 s8 s9 s10 : SL} {n : Int} {l : Ss} (h : de (s0 :: s1 :: s2 :: s3 :: s4 :: s5 :: s6 :: s7 :: s8 :: s9 :: s10 :: .val (.int n) :: l) μ fun d δ1 μ1 => ∃ m, d = .int m ∧ nxSet nx 11 (.val (.int (f n m))) δ1 μ1) : dAug 11 de f ⟨nx, rt, bk, ct⟩ (s0 :: s1 :: s2 :: s3 :: s4 :: s5 :: s6 :: s7 :: s8 :: s9 :: s10 :: .val (.int n) :: l) μ := ⟨n, rfl, h⟩
theorem oo_0 {d1 d2 : DE} {m : MO} {l : Ss} (h : d1 (.own m :: l) μ Q) : dOO 0 d1 d2 (.own m :: l) μ Q := h
theorem ov_0 {d1 d2 : DE} {d : D} {l : Ss} (h : d2 (.val d :: l) μ Q) : dOO 0 d1 d2 (.val d :: l) μ Q := h
theorem to_0 {d1 d2 : DT} {R : Bool → Ss → Mem → Prop} {m : MO} {l : Ss} (h : d1 (.own m :: l) μ R) : dOT 0 d1 d2 (.own m :: l) μ R := h
theorem tv_0 {d1 d2 : DT} {R : Bool → Ss → Mem → Prop} {d : D} {l : Ss} (h : d2 (.val d :: l) μ R) : dOT 0 d1 d2 (.val d :: l) μ R := h
theorem lo_0 {a : List D} {l : Ss} (h : Q (.int a.length) (.own (.lst a) :: l) μ) : dLenO 0 (.own (.lst a) :: l) μ Q := ⟨a, rfl, h⟩
theorem so_0 {dl dh : DO} {m : MO} {l : Ss} (h : dl (.own m :: l) μ fun lo δ1 μ1 => dh δ1 μ1 fun hi δ2 μ2 => SlO 0 lo hi δ2 μ2 Q) : dSlO 0 dl dh (.own m :: l) μ Q := ⟨⟨m, rfl⟩, h⟩
theorem se_0 {a : List D} {lo hi : Option Int} {l : Ss} (h : Q (.lst (cutD a lo hi)) (.own (.lst a) :: l) μ) : SlO 0 lo hi (.own (.lst a) :: l) μ Q := ⟨a, rfl, h⟩
theorem xo_0 {db : DE} {m : MO} {l : Ss} (h : db (.own m :: l) μ fun y δ1 μ1 => IxO 0 y δ1 μ1 Q) : dIxO 0 db (.own m :: l) μ Q := ⟨⟨m, rfl⟩, h⟩
theorem xe_0 {a : List D} {y : D} {l : Ss} (h : rdIx (.lst a) y μ fun d μ1 => Q d (.own (.lst a) :: l) μ1) : IxO 0 y (.own (.lst a) :: l) μ Q := by
  obtain ⟨j, rfl, h | ⟨z, c, e, _⟩⟩ := h
  · obtain ⟨a2, d, e, h1, h2⟩ := h
    cases (show some a = some a2 from e)
    exact ⟨a, j, d, rfl, rfl, h1, h2⟩
  · cases e
theorem oo_1 {d1 d2 : DE} {s0 : SL} {m : MO} {l : Ss} (h : d1 (s0 :: .own m :: l) μ Q) : dOO 1 d1 d2 (s0 :: .own m :: l) μ Q := h
theorem ov_1 {d1 d2 : DE} {s0 : SL} {d : D} {l : Ss} (h : d2 (s0 :: .val d :: l) μ Q) : dOO 1 d1 d2 (s0 :: .val d :: l) μ Q := h
theorem to_1 {d1 d2 : DT} {R : Bool → Ss → Mem → Prop} {s0 : SL} {m : MO} {l : Ss} (h : d1 (s0 :: .own m :: l) μ R) : dOT 1 d1 d2 (s0 :: .own m :: l) μ R := h
theorem tv_1 {d1 d2 : DT} {R : Bool → Ss → Mem → Prop} {s0 : SL} {d : D} {l : Ss} (h : d2 (s0 :: .val d :: l) μ R) : dOT 1 d1 d2 (s0 :: .val d :: l) μ R := h
theorem lo_1 {s0 : SL} {a : List D} {l : Ss} (h : Q (.int a.length) (s0 :: .own (.lst a) :: l) μ) : dLenO 1 (s0 :: .own (.lst a) :: l) μ Q := ⟨a, rfl, h⟩
theorem so_1 {dl dh : DO} {s0 : SL} {m : MO} {l : Ss} (h : dl (s0 :: .own m :: l) μ fun lo δ1 μ1 => dh δ1 μ1 fun hi δ2 μ2 => SlO 1 lo hi δ2 μ2 Q) : dSlO 1 dl dh (s0 :: .own m :: l) μ Q := ⟨⟨m, rfl⟩, h⟩
theorem se_1 {s0 : SL} {a : List D} {lo hi : Option Int} {l : Ss} (h : Q (.lst (cutD a lo hi)) (s0 :: .own (.lst a) :: l) μ) : SlO 1 lo hi (s0 :: .own (.lst a) :: l) μ Q := ⟨a, rfl, h⟩
theorem xo_1 {db : DE} {s0 : SL} {m : MO} {l : Ss} (h : db (s0 :: .own m :: l) μ fun y δ1 μ1 => IxO 1 y δ1 μ1 Q) : dIxO 1 db (s0 :: .own m :: l) μ Q := ⟨⟨m, rfl⟩, h⟩
theorem xe_1 {s0 : SL} {a : List D} {y : D} {l : Ss} (h : rdIx (.lst a) y μ fun d μ1 => Q d (s0 :: .own (.lst a) :: l) μ1) : IxO 1 y (s0 :: .own (.lst a) :: l) μ Q := by
  obtain ⟨j, rfl, h | ⟨z, c, e, _⟩⟩ := h
  · obtain ⟨a2, d, e, h1, h2⟩ := h
    cases (show some a = some a2 from e)
    exact ⟨a, j, d, rfl, rfl, h1, h2⟩
  · cases e
theorem oo_2 {d1 d2 : DE} {s0 s1 : SL} {m : MO} {l : Ss} (h : d1 (s0 :: s1 :: .own m :: l) μ Q) : dOO 2 d1 d2 (s0 :: s1 :: .own m :: l) μ Q := h
theorem ov_2 {d1 d2 : DE} {s0 s1 : SL} {d : D} {l : Ss} (h : d2 (s0 :: s1 :: .val d :: l) μ Q) : dOO 2 d1 d2 (s0 :: s1 :: .val d :: l) μ Q := h
theorem to_2 {d1 d2 : DT} {R : Bool → Ss → Mem → Prop} {s0 s1 : SL} {m : MO} {l : Ss} (h : d1 (s0 :: s1 :: .own m :: l) μ R) : dOT 2 d1 d2 (s0 :: s1 :: .own m :: l) μ R := h
theorem tv_2 {d1 d2 : DT} {R : Bool → Ss → Mem → Prop} {s0 s1 : SL} {d : D} {l : Ss} (h : d2 (s0 :: s1 :: .val d :: l) μ R) : dOT 2 d1 d2 (s0 :: s1 :: .val d :: l) μ R := h
theorem lo_2 {s0 s1 : SL} {a : List D} {l : Ss} (h : Q (.int a.length) (s0 :: s1 :: .own (.lst a) :: l) μ) : dLenO 2 (s0 :: s1 :: .own (.lst a) :: l) μ Q := ⟨a, rfl, h⟩
theorem so_2 {dl dh : DO} {s0 s1 : SL} {m : MO} {l : Ss} (h : dl (s0 :: s1 :: .own m :: l) μ fun lo δ1 μ1 => dh δ1 μ1 fun hi δ2 μ2 => SlO 2 lo hi δ2 μ2 Q) : dSlO 2 dl dh (s0 :: s1 :: .own m :: l) μ Q := ⟨⟨m, rfl⟩, h⟩
theorem se_2 {s0 s1 : SL} {a : List D} {lo hi : Option Int} {l : Ss} (h : Q (.lst (cutD a lo hi)) (s0 :: s1 :: .own (.lst a) :: l) μ) : SlO 2 lo hi (s0 :: s1 :: .own (.lst a) :: l) μ Q := ⟨a, rfl, h⟩
theorem xo_2 {db : DE} {s0 s1 : SL} {m : MO} {l : Ss} (h : db (s0 :: s1 :: .own m :: l) μ fun y δ1 μ1 => IxO 2 y δ1 μ1 Q) : dIxO 2 db (s0 :: s1 :: .own m :: l) μ Q := ⟨⟨m, rfl⟩, h⟩
theorem xe_2 {s0 s1 : SL} {a : List D} {y : D} {l : Ss} (h : rdIx (.lst a) y μ fun d μ1 => Q d (s0 :: s1 :: .own (.lst a) :: l) μ1) : IxO 2 y (s0 :: s1 :: .own (.lst a) :: l) μ Q := by
  obtain ⟨j, rfl, h | ⟨z, c, e, _⟩⟩ := h
  · obtain ⟨a2, d, e, h1, h2⟩ := h
    cases (show some a = some a2 from e)
    exact ⟨a, j, d, rfl, rfl, h1, h2⟩
  · cases e
theorem oo_3 {d1 d2 : DE} {s0 s1 s2 : SL} {m : MO} {l : Ss} (h : d1 (s0 :: s1 :: s2 :: .own m :: l) μ Q) : dOO 3 d1 d2 (s0 :: s1 :: s2 :: .own m :: l) μ Q := h
theorem ov_3 {d1 d2 : DE} {s0 s1 s2 : SL} {d : D} {l : Ss} (h : d2 (s0 :: s1 :: s2 :: .val d :: l) μ Q) : dOO 3 d1 d2 (s0 :: s1 :: s2 :: .val d :: l) μ Q := h
theorem to_3 {d1 d2 : DT} {R : Bool → Ss → Mem → Prop} {s0 s1 s2 : SL} {m : MO} {l : Ss} (h : d1 (s0 :: s1 :: s2 :: .own m :: l) μ R) : dOT 3 d1 d2 (s0 :: s1 :: s2 :: .own m :: l) μ R := h
theorem tv_3 {d1 d2 : DT} {R : Bool → Ss → Mem → Prop} {s0 s1 s2 : SL} {d : D} {l : Ss} (h : d2 (s0 :: s1 :: s2 :: .val d :: l) μ R) : dOT 3 d1 d2 (s0 :: s1 :: s2 :: .val d :: l) μ R := h
theorem lo_3 {s0 s1 s2 : SL} {a : List D} {l : Ss} (h : Q (.int a.length) (s0 :: s1 :: s2 :: .own (.lst a) :: l) μ) : dLenO 3 (s0 :: s1 :: s2 :: .own (.lst a) :: l) μ Q := ⟨a, rfl, h⟩
theorem so_3 {dl dh : DO} {s0 s1 s2 : SL} {m : MO} {l : Ss} (h : dl (s0 :: s1 :: s2 :: .own m :: l) μ fun lo δ1 μ1 => dh δ1 μ1 fun hi δ2 μ2 => SlO 3 lo hi δ2 μ2 Q) : dSlO 3 dl dh (s0 :: s1 :: s2 :: .own m :: l) μ Q := ⟨⟨m, rfl⟩, h⟩
theorem se_3 {s0 s1 s2 : SL} {a : List D} {lo hi : Option Int} {l : Ss} (h : Q (.lst (cutD a lo hi)) (s0 :: s1 :: s2 :: .own (.lst a) :: l) μ) : SlO 3 lo hi (s0 :: s1 :: s2 :: .own (.lst a) :: l) μ Q := ⟨a, rfl, h⟩
theorem xo_3 {db : DE} {s0 s1 s2 : SL} {m : MO} {l : Ss} (h : db (s0 :: s1 :: s2 :: .own m :: l) μ fun y δ1 μ1 => IxO 3 y δ1 μ1 Q) : dIxO 3 db (s0 :: s1 :: s2 :: .own m :: l) μ Q := ⟨⟨m, rfl⟩, h⟩
theorem xe_3 {s0 s1 s2 : SL} {a : List D} {y : D} {l : Ss} (h : rdIx (.lst a) y μ fun d μ1 => Q d (s0 :: s1 :: s2 :: .own (.lst a) :: l) μ1) : IxO 3 y (s0 :: s1 :: s2 :: .own (.lst a) :: l) μ Q := by
  obtain ⟨j, rfl, h | ⟨z, c, e, _⟩⟩ := h
  · obtain ⟨a2, d, e, h1, h2⟩ := h
    cases (show some a = some a2 from e)
    exact ⟨a, j, d, rfl, rfl, h1, h2⟩
  · cases e
theorem oo_4 {d1 d2 : DE} {s0 s1 s2 s3 : SL} {m : MO} {l : Ss} (h : d1 (s0 :: s1 :: s2 :: s3 :: .own m :: l) μ Q) : dOO 4 d1 d2 (s0 :: s1 :: s2 :: s3 :: .own m :: l) μ Q := h
theorem ov_4 {d1 d2 : DE} {s0 s1 s2 s3 : SL} {d : D} {l : Ss} (h : d2 (s0 :: s1 :: s2 :: s3 :: .val d :: l) μ Q) : dOO 4 d1 d2 (s0 :: s1 :: s2 :: s3 :: .val d :: l) μ Q := h
theorem to_4 {d1 d2 : DT} {R : Bool → Ss → Mem → Prop} {s0 s1 s2 s3 : SL} {m : MO} {l : Ss} (h : d1 (s0 :: s1 :: s2 :: s3 :: .own m :: l) μ R) : dOT 4 d1 d2 (s0 :: s1 :: s2 :: s3 :: .own m :: l) μ R := h
theorem tv_4 {d1 d2 : DT} {R : Bool → Ss → Mem → Prop} {s0 s1 s2 s3 : SL} {d : D} {l : Ss} (h : d2 (s0 :: s1 :: s2 :: s3 :: .val d :: l) μ R) : dOT 4 d1 d2 (s0 :: s1 :: s2 :: s3 :: .val d :: l) μ R := h
theorem lo_4 {s0 s1 s2 s3 : SL} {a : List D} {l : Ss} (h : Q (.int a.length) (s0 :: s1 :: s2 :: s3 :: .own (.lst a) :: l) μ) : dLenO 4 (s0 :: s1 :: s2 :: s3 :: .own (.lst a) :: l) μ Q := ⟨a, rfl, h⟩
theorem so_4 {dl dh : DO} {s0 s1 s2 s3 : SL} {m : MO} {l : Ss} (h : dl (s0 :: s1 :: s2 :: s3 :: .own m :: l) μ fun lo δ1 μ1 => dh δ1 μ1 fun hi δ2 μ2 => SlO 4 lo hi δ2 μ2 Q) : dSlO 4 dl dh (s0 :: s1 :: s2 :: s3 :: .own m :: l) μ Q := ⟨⟨m, rfl⟩, h⟩
theorem se_4 {s0 s1 s2 s3 : SL} {a : List D} {lo hi : Option Int} {l : Ss} (h : Q (.lst (cutD a lo hi)) (s0 :: s1 :: s2 :: s3 :: .own (.lst a) :: l) μ) : SlO 4 lo hi (s0 :: s1 :: s2 :: s3 :: .own (.lst a) :: l) μ Q := ⟨a, rfl, h⟩
theorem xo_4 {db : DE} {s0 s1 s2 s3 : SL} {m : MO} {l : Ss} (h : db (s0 :: s1 :: s2 :: s3 :: .own m :: l) μ fun y δ1 μ1 => IxO 4 y δ1 μ1 Q) : dIxO 4 db (s0 :: s1 :: s2 :: s3 :: .own m :: l) μ Q := ⟨⟨m, rfl⟩, h⟩
theorem xe_4 {s0 s1 s2 s3 : SL} {a : List D} {y : D} {l : Ss} (h : rdIx (.lst a) y μ fun d μ1 => Q d (s0 :: s1 :: s2 :: s3 :: .own (.lst a) :: l) μ1) : IxO 4 y (s0 :: s1 :: s2 :: s3 :: .own (.lst a) :: l) μ Q := by
  obtain ⟨j, rfl, h | ⟨z, c, e, _⟩⟩ := h
  · obtain ⟨a2, d, e, h1, h2⟩ := h
    cases (show some a = some a2 from e)
    exact ⟨a, j, d, rfl, rfl, h1, h2⟩
  · cases e
theorem oo_5 {d1 d2 : DE} {s0 s1 s2 s3 s4 : SL} {m : MO} {l : Ss} (h : d1 (s0 :: s1 :: s2 :: s3 :: s4 :: .own m :: l) μ Q) : dOO 5 d1 d2 (s0 :: s1 :: s2 :: s3 :: s4 :: .own m :: l) μ Q := h
theorem ov_5 {d1 d2 : DE} {s0 s1 s2 s3 s4 : SL} {d : D} {l : Ss} (h : d2 (s0 :: s1 :: s2 :: s3 :: s4 :: .val d :: l) μ Q) : dOO 5 d1 d2 (s0 :: s1 :: s2 :: s3 :: s4 :: .val d :: l) μ Q := h
theorem to_5 {d1 d2 : DT} {R : Bool → Ss → Mem → Prop} {s0 s1 s2 s3 s4 : SL} {m : MO} {l : Ss} (h : d1 (s0 :: s1 :: s2 :: s3 :: s4 :: .own m :: l) μ R) : dOT 5 d1 d2 (s0 :: s1 :: s2 :: s3 :: s4 :: .own m :: l) μ R := h
theorem tv_5 {d1 d2 : DT} {R : Bool → Ss → Mem → Prop} {s0 s1 s2 s3 s4 : SL} {d : D} {l : Ss} (h : d2 (s0 :: s1 :: s2 :: s3 :: s4 :: .val d :: l) μ R) : dOT 5 d1 d2 (s0 :: s1 :: s2 :: s3 :: s4 :: .val d :: l) μ R := h
theorem lo_5 {s0 s1 s2 s3 s4 : SL} {a : List D} {l : Ss} (h : Q (.int a.length) (s0 :: s1 :: s2 :: s3 :: s4 :: .own (.lst a) :: l) μ) : dLenO 5 (s0 :: s1 :: s2 :: s3 :: s4 :: .own (.lst a) :: l) μ Q := ⟨a, rfl, h⟩
theorem so_5 {dl dh : DO} {s0 s1 s2 s3 s4 : SL} {m : MO} {l : Ss} (h : dl (s0 :: s1 :: s2 :: s3 :: s4 :: .own m :: l) μ fun lo δ1 μ1 => dh δ1 μ1 fun hi δ2 μ2 => SlO 5 lo hi δ2 μ2 Q) : dSlO 5 dl dh (s0 :: s1 :: s2 :: s3 :: s4 :: .own m :: l) μ Q := ⟨⟨m, rfl⟩, h⟩
theorem se_5 {s0 s1 s2 s3 s4 : SL} {a : List D} {lo hi : Option Int} {l : Ss} (h : Q (.lst (cutD a lo hi)) (s0 :: s1 :: s2 :: s3 :: s4 :: .own (.lst a) :: l) μ) : SlO 5 lo hi (s0 :: s1 :: s2 :: s3 :: s4 :: .own (.lst a) :: l) μ Q := ⟨a, rfl, h⟩
theorem xo_5 {db : DE} {s0 s1 s2 s3 s4 : SL} {m : MO} {l : Ss} (h : db (s0 :: s1 :: s2 :: s3 :: s4 :: .own m :: l) μ fun y δ1 μ1 => IxO 5 y δ1 μ1 Q) : dIxO 5 db (s0 :: s1 :: s2 :: s3 :: s4 :: .own m :: l) μ Q := ⟨⟨m, rfl⟩, h⟩
theorem xe_5 {s0 s1 s2 s3 s4 : SL} {a : List D} {y : D} {l : Ss} (h : rdIx (.lst a) y μ fun d μ1 => Q d (s0 :: s1 :: s2 :: s3 :: s4 :: .own (.lst a) :: l) μ1) : IxO 5 y (s0 :: s1 :: s2 :: s3 :: s4 :: .own (.lst a) :: l) μ Q := by
  obtain ⟨j, rfl, h | ⟨z, c, e, _⟩⟩ := h
  · obtain ⟨a2, d, e, h1, h2⟩ := h
    cases (show some a = some a2 from e)
    exact ⟨a, j, d, rfl, rfl, h1, h2⟩
  · cases e
theorem oo_6 {d1 d2 : DE} {s0 s1 s2 s3 s4 s5 : SL} {m : MO} {l : Ss} (h : d1 (s0 :: s1 :: s2 :: s3 :: s4 :: s5 :: .own m :: l) μ Q) : dOO 6 d1 d2 (s0 :: s1 :: s2 :: s3 :: s4 :: s5 :: .own m :: l) μ Q := h
theorem ov_6 {d1 d2 : DE} {s0 s1 s2 s3 s4 s5 : SL} {d : D} {l : Ss} (h : d2 (s0 :: s1 :: s2 :: s3 :: s4 :: s5 :: .val d :: l) μ Q) : dOO 6 d1 d2 (s0 :: s1 :: s2 :: s3 :: s4 :: s5 :: .val d :: l) μ Q := h
theorem to_6 {d1 d2 : DT} {R : Bool → Ss → Mem → Prop} {s0 s1 s2 s3 s4 s5 : SL} {m : MO} {l : Ss} (h : d1 (s0 :: s1 :: s2 :: s3 :: s4 :: s5 :: .own m :: l) μ R) : dOT 6 d1 d2 (s0 :: s1 :: s2 :: s3 :: s4 :: s5 :: .own m :: l) μ R := h
theorem tv_6 {d1 d2 : DT} {R : Bool → Ss → Mem → Prop} {s0 s1 s2 s3 s4 s5 : SL} {d : D} {l : Ss} (h : d2 (s0 :: s1 :: s2 :: s3 :: s4 :: s5 :: .val d :: l) μ R) : dOT 6 d1 d2 (s0 :: s1 :: s2 :: s3 :: s4 :: s5 :: .val d :: l) μ R := h
theorem lo_6 {s0 s1 s2 s3 s4 s5 : SL} {a : List D} {l : Ss} (h : Q (.int a.length) (s0 :: s1 :: s2 :: s3 :: s4 :: s5 :: .own (.lst a) :: l) μ) : dLenO 6 (s0 :: s1 :: s2 :: s3 :: s4 :: s5 :: .own (.lst a) :: l) μ Q := ⟨a, rfl, h⟩
theorem so_6 {dl dh : DO} {s0 s1 s2 s3 s4 s5 : SL} {m : MO} {l : Ss} (h : dl (s0 :: s1 :: s2 :: s3 :: s4 :: s5 :: .own m :: l) μ fun lo δ1 μ1 => dh δ1 μ1 fun hi δ2 μ2 => SlO 6 lo hi δ2 μ2 Q) : dSlO 6 dl dh (s0 :: s1 :: s2 :: s3 :: s4 :: s5 :: .own m :: l) μ Q := ⟨⟨m, rfl⟩, h⟩
theorem se_6 {s0 s1 s2 s3 s4 s5 : SL} {a : List D} {lo hi : Option Int} {l : Ss} (h : Q (.lst (cutD a lo hi)) (s0 :: s1 :: s2 :: s3 :: s4 :: s5 :: .own (.lst a) :: l) μ) : SlO 6 lo hi (s0 :: s1 :: s2 :: s3 :: s4 :: s5 :: .own (.lst a) :: l) μ Q := ⟨a, rfl, h⟩
theorem xo_6 {db : DE} {s0 s1 s2 s3 s4 s5 : SL} {m : MO} {l : Ss} (h : db (s0 :: s1 :: s2 :: s3 :: s4 :: s5 :: .own m :: l) μ fun y δ1 μ1 => IxO 6 y δ1 μ1 Q) : dIxO 6 db (s0 :: s1 :: s2 :: s3 :: s4 :: s5 :: .own m :: l) μ Q := ⟨⟨m, rfl⟩, h⟩
theorem xe_6 {s0 s1 s2 s3 s4 s5 : SL} {a : List D} {y : D} {l : Ss} (h : rdIx (.lst a) y μ fun d μ1 => Q d (s0 :: s1 :: s2 :: s3 :: s4 :: s5 :: .own (.lst a) :: l) μ1) : IxO 6 y (s0 :: s1 :: s2 :: s3 :: s4 :: s5 :: .own (.lst a) :: l) μ Q := by
  obtain ⟨j, rfl, h | ⟨z, c, e, _⟩⟩ := h
  · obtain ⟨a2, d, e, h1, h2⟩ := h
    cases (show some a = some a2 from e)
    exact ⟨a, j, d, rfl, rfl, h1, h2⟩
  · cases e
theorem oo_7 {d1 d2 : DE} {s0 s1 s2 s3 s4 s5 s6 : SL} {m : MO} {l : Ss} (h : d1 (s0 :: s1 :: s2 :: s3 :: s4 :: s5 :: s6 :: .own m :: l) μ Q) : dOO 7 d1 d2 (s0 :: s1 :: s2 :: s3 :: s4 :: s5 :: s6 :: .own m :: l) μ Q := h
theorem ov_7 {d1 d2 : DE} {s0 s1 s2 s3 s4 s5 s6 : SL} {d : D} {l : Ss} (h : d2 (s0 :: s1 :: s2 :: s3 :: s4 :: s5 :: s6 :: .val d :: l) μ Q) : dOO 7 d1 d2 (s0 :: s1 :: s2 :: s3 :: s4 :: s5 :: s6 :: .val d :: l) μ Q := h
theorem to_7 {d1 d2 : DT} {R : Bool → Ss → Mem → Prop} {s0 s1 s2 s3 s4 s5 s6 : SL} {m : MO} {l : Ss} (h : d1 (s0 :: s1 :: s2 :: s3 :: s4 :: s5 :: s6 :: .own m :: l) μ R) : dOT 7 d1 d2 (s0 :: s1 :: s2 :: s3 :: s4 :: s5 :: s6 :: .own m :: l) μ R := h
theorem tv_7 {d1 d2 : DT} {R : Bool → Ss → Mem → Prop} {s0 s1 s2 s3 s4 s5 s6 : SL} {d : D} {l : Ss} (h : d2 (s0 :: s1 :: s2 :: s3 :: s4 :: s5 :: s6 :: .val d :: l) μ R) : dOT 7 d1 d2 (s0 :: s1 :: s2 :: s3 :: s4 :: s5 :: s6 :: .val d :: l) μ R := h
theorem lo_7 {s0 s1 s2 s3 s4 s5 s6 : SL} {a : List D} {l : Ss} (h : Q (.int a.length) (s0 :: s1 :: s2 :: s3 :: s4 :: s5 :: s6 :: .own (.lst a) :: l) μ) : dLenO 7 (s0 :: s1 :: s2 :: s3 :: s4 :: s5 :: s6 :: .own (.lst a) :: l) μ Q := ⟨a, rfl, h⟩
theorem so_7 {dl dh : DO} {s0 s1 s2 s3 s4 s5 s6 : SL} {m : MO} {l : Ss} (h : dl (s0 :: s1 :: s2 :: s3 :: s4 :: s5 :: s6 :: .own m :: l) μ fun lo δ1 μ1 => dh δ1 μ1 fun hi δ2 μ2 => SlO 7 lo hi δ2 μ2 Q) : dSlO 7 dl dh (s0 :: s1 :: s2 :: s3 :: s4 :: s5 :: s6 :: .own m :: l) μ Q := ⟨⟨m, rfl⟩, h⟩
theorem se_7 {s0 s1 s2 s3 s4 s5 s6 : SL} {a : List D} {lo hi : Option Int} {l : Ss} (h : Q (.lst (cutD a lo hi)) (s0 :: s1 :: s2 :: s3 :: s4 :: s5 :: s6 :: .own (.lst a) :: l) μ) : SlO 7 lo hi (s0 :: s1 :: s2 :: s3 :: s4 :: s5 :: s6 :: .own (.lst a) :: l) μ Q := ⟨a, rfl, h⟩
theorem xo_7 {db : DE} {s0 s1 s2 s3 s4 s5 s6 : SL} {m : MO} {l : Ss} (h : db (s0 :: s1 :: s2 :: s3 :: s4 :: s5 :: s6 :: .own m :: l) μ fun y δ1 μ1 => IxO 7 y δ1 μ1 Q) : dIxO 7 db (s0 :: s1 :: s2 :: s3 :: s4 :: s5 :: s6 :: .own m :: l) μ Q := ⟨⟨m, rfl⟩, h⟩
theorem xe_7 {s0 s1 s2 s3 s4 s5 s6 : SL} {a : List D} {y : D} {l : Ss} (h : rdIx (.lst a) y μ fun d μ1 => Q d (s0 :: s1 :: s2 :: s3 :: s4 :: s5 :: s6 :: .own (.lst a) :: l) μ1) : IxO 7 y (s0 :: s1 :: s2 :: s3 :: s4 :: s5 :: s6 :: .own (.lst a) :: l) μ Q := by
  obtain ⟨j, rfl, h | ⟨z, c, e, _⟩⟩ := h
  · obtain ⟨a2, d, e, h1, h2⟩ := h
    cases (show some a = some a2 from e)
    exact ⟨a, j, d, rfl, rfl, h1, h2⟩
  · cases e
theorem oo_8 {d1 d2 : DE} {s0 s1 s2 s3 s4 s5 s6 s7 : SL} {m : MO} {l : Ss} (h : d1 (s0 :: s1 :: s2 :: s3 :: s4 :: s5 :: s6 :: s7 :: .own m :: l) μ Q) : dOO 8 d1 d2 (s0 :: s1 :: s2 :: s3 :: s4 :: s5 :: s6 :: s7 :: .own m :: l) μ Q := h
theorem ov_8 {d1 d2 : DE} {s0 s1 s2 s3 s4 s5 s6 s7 : SL} {d : D} {l : Ss} (h : d2 (s0 :: s1 :: s2 :: s3 :: s4 :: s5 :: s6 :: s7 :: .val d :: l) μ Q) : dOO 8 d1 d2 (s0 :: s1 :: s2 :: s3 :: s4 :: s5 :: s6 :: s7 :: .val d :: l) μ Q := h
theorem to_8 {d1 d2 : DT} {R : Bool → Ss → Mem → Prop} {s0 s1 s2 s3 s4 s5 s6 s7 : SL} {m : MO} {l : Ss} (h : d1 (s0 :: s1 :: s2 :: s3 :: s4 :: s5 :: s6 :: s7 :: .own m :: l) μ R) : dOT 8 d1 d2 (s0 :: s1 :: s2 :: s3 :: s4 :: s5 :: s6 :: s7 :: .own m :: l) μ R := h
theorem tv_8 {d1 d2 : DT} {R : Bool → Ss → Mem → Prop} {s0 s1 s2 s3 s4 s5 s6 s7 : SL} {d : D} {l : Ss} (h : d2 (s0 :: s1 :: s2 :: s3 :: s4 :: s5 :: s6 :: s7 :: .val d :: l) μ R) : dOT 8 d1 d2 (s0 :: s1 :: s2 :: s3 :: s4 :: s5 :: s6 :: s7 :: .val d :: l) μ R := h
theorem lo_8 {s0 s1 s2 s3 s4 s5 s6 s7 : SL} {a : List D} {l : Ss} (h : Q (.int a.length) (s0 :: s1 :: s2 :: s3 :: s4 :: s5 :: s6 :: s7 :: .own (.lst a) :: l) μ) : dLenO 8 (s0 :: s1 :: s2 :: s3 :: s4 :: s5 :: s6 :: s7 :: .own (.lst a) :: l) μ Q := ⟨a, rfl, h⟩
theorem so_8 {dl dh : DO} {s0 s1 s2 s3 s4 s5 s6 s7 : SL} {m : MO} {l : Ss} (h : dl (s0 :: s1 :: s2 :: s3 :: s4 :: s5 :: s6 :: s7 :: .own m :: l) μ fun lo δ1 μ1 => dh δ1 μ1 fun hi δ2 μ2 => SlO 8 lo hi δ2 μ2 Q) : dSlO 8 dl dh (s0 :: s1 :: s2 :: s3 :: s4 :: s5 :: s6 :: s7 :: .own m :: l) μ Q := ⟨⟨m, rfl⟩, h⟩
theorem se_8 {s0 s1 s2 s3 s4 s5 s6 s7 : SL} {a : List D} {lo hi : Option Int} {l : Ss} (h : Q (.lst (cutD a lo hi)) (s0 :: s1 :: s2 :: s3 :: s4 :: s5 :: s6 :: s7 :: .own (.lst a) :: l) μ) : SlO 8 lo hi (s0 :: s1 :: s2 :: s3 :: s4 :: s5 :: s6 :: s7 :: .own (.lst a) :: l) μ Q := ⟨a, rfl, h⟩
theorem xo_8 {db : DE} {s0 s1 s2 s3 s4 s5 s6 s7 : SL} {m : MO} {l : Ss} (h : db (s0 :: s1 :: s2 :: s3 :: s4 :: s5 :: s6 :: s7 :: .own m :: l) μ fun y δ1 μ1 => IxO 8 y δ1 μ1 Q) : dIxO 8 db (s0 :: s1 :: s2 :: s3 :: s4 :: s5 :: s6 :: s7 :: .own m :: l) μ Q := ⟨⟨m, rfl⟩, h⟩
theorem xe_8 {s0 s1 s2 s3 s4 s5 s6 s7 : SL} {a : List D} {y : D} {l : Ss} (h : rdIx (.lst a) y μ fun d μ1 => Q d (s0 :: s1 :: s2 :: s3 :: s4 :: s5 :: s6 :: s7 :: .own (.lst a) :: l) μ1) : IxO 8 y (s0 :: s1 :: s2 :: s3 :: s4 :: s5 :: s6 :: s7 :: .own (.lst a) :: l) μ Q := by
  obtain ⟨j, rfl, h | ⟨z, c, e, _⟩⟩ := h
  · obtain ⟨a2, d, e, h1, h2⟩ := h
    cases (show some a = some a2 from e)
    exact ⟨a, j, d, rfl, rfl, h1, h2⟩
  · cases e
theorem oo_9 {d1 d2 : DE} {s0 s1 s2 s3 s4 s5 s6 s7 s8 : SL} {m : MO} {l : Ss} (h : d1 (s0 :: s1 :: s2 :: s3 :: s4 :: s5 :: s6 :: s7 :: s8 :: .own m :: l) μ Q) : dOO 9 d1 d2 (s0 :: s1 :: s2 :: s3 :: s4 :: s5 :: s6 :: s7 :: s8 :: .own m :: l) μ Q := h
theorem ov_9 {d1 d2 : DE} {s0 s1 s2 s3 s4 s5 s6 s7 s8 : SL} {d : D} {l : Ss} (h : d2 (s0 :: s1 :: s2 :: s3 :: s4 :: s5 :: s6 :: s7 :: s8 :: .val d :: l) μ Q) : dOO 9 d1 d2 (s0 :: s1 :: s2 :: s3 :: s4 :: s5 :: s6 :: s7 :: s8 :: .val d :: l) μ Q := h
theorem to_9 {d1 d2 : DT} {R : Bool → Ss → Mem → Prop} {s0 s1 s2 s3 s4 s5 s6 s7 s8 : SL} {m : MO} {l : Ss} (h : d1 (s0 :: s1 :: s2 :: s3 :: s4 :: s5 :: s6 :: s7 :: s8 :: .own m :: l) μ R) : dOT 9 d1 d2 (s0 :: s1 :: s2 :: s3 :: s4 :: s5 :: s6 :: s7 :: s8 :: .own m :: l) μ R := h
theorem tv_9 {d1 d2 : DT} {R : Bool → Ss → Mem → Prop} {s0 s1 s2 s3 s4 s5 s6 s7 s8 : SL} {d : D} {l : Ss} (h : d2 (s0 :: s1 :: s2 :: s3 :: s4 :: s5 :: s6 :: s7 :: s8 :: .val d :: l) μ R) : dOT 9 d1 d2 (s0 :: s1 :: s2 :: s3 :: s4 :: s5 :: s6 :: s7 :: s8 :: .val d :: l) μ R := h
theorem lo_9 {s0 s1 s2 s3 s4 s5 s6 s7 s8 : SL} {a : List D} {l : Ss} (h : Q (.int a.length) (s0 :: s1 :: s2 :: s3 :: s4 :: s5 :: s6 :: s7 :: s8 :: .own (.lst a) :: l) μ) : dLenO 9 (s0 :: s1 :: s2 :: s3 :: s4 :: s5 :: s6 :: s7 :: s8 :: .own (.lst a) :: l) μ Q := ⟨a, rfl, h⟩
theorem so_9 {dl dh : DO} {s0 s1 s2 s3 s4 s5 s6 s7 s8 : SL} {m : MO} {l : Ss} (h : dl (s0 :: s1 :: s2 :: s3 :: s4 :: s5 :: s6 :: s7 :: s8 :: .own m :: l) μ fun lo δ1 μ1 => dh δ1 μ1 fun hi δ2 μ2 => SlO 9 lo hi δ2 μ2 Q) : dSlO 9 dl dh (s0 :: s1 :: s2 :: s3 :: s4 :: s5 :: s6 :: s7 :: s8 :: .own m :: l) μ Q := ⟨⟨m, rfl⟩, h⟩
theorem se_9 {s0 s1 s2 s3 s4 s5 s6 s7 s8 : SL} {a : List D} {lo hi : Option Int} {l : Ss} (h : Q (.lst (cutD a lo hi)) (s0 :: s1 :: s2 :: s3 :: s4 :: s5 :: s6 :: s7 :: s8 :: .own (.lst a) :: l) μ) : SlO 9 lo hi (s0 :: s1 :: s2 :: s3 :: s4 :: s5 :: s6 :: s7 :: s8 :: .own (.lst a) :: l) μ Q := ⟨a, rfl, h⟩
theorem xo_9 {db : DE} {s0 s1 s2 s3 s4 s5 s6 s7 s8 : SL} {m : MO} {l : Ss} (h : db (s0 :: s1 :: s2 :: s3 :: s4 :: s5 :: s6 :: s7 :: s8 :: .own m :: l) μ fun y δ1 μ1 => IxO 9 y δ1 μ1 Q) : dIxO 9 db (s0 :: s1 :: s2 :: s3 :: s4 :: s5 :: s6 :: s7 :: s8 :: .own m :: l) μ Q := ⟨⟨m, rfl⟩, h⟩
theorem xe_9 {s0 s1 s2 s3 s4 s5 s6 s7 s8 : SL} {a : List D} {y : D} {l : Ss} (h : rdIx (.lst a) y μ fun d μ1 => Q d (s0 :: s1 :: s2 :: s3 :: s4 :: s5 :: s6 :: s7 :: s8 :: .own (.lst a) :: l) μ1) : IxO 9 y (s0 :: s1 :: s2 :: s3 :: s4 :: s5 :: s6 :: s7 :: s8 :: .own (.lst a) :: l) μ Q := by
  obtain ⟨j, rfl, h | ⟨z, c, e, _⟩⟩ := h
  · obtain ⟨a2, d, e, h1, h2⟩ := h
    cases (show some a = some a2 from e)
    exact ⟨a, j, d, rfl, rfl, h1, h2⟩
  · cases e
theorem oo_10 {d1 d2 : DE} {s0 s1 s2 s3 s4 s5 s6 s7 s8 s9 : SL} {m : MO} {l : Ss} (h : d1 (s0 :: s1 :: s2 :: s3 :: s4 :: s5 :: s6 :: s7 :: s8 :: s9 :: .own m :: l) μ Q) : dOO 10 d1 d2 (s0 :: s1 :: s2 :: s3 :: s4 :: s5 :: s6 :: s7 :: s8 :: s9 :: .own m :: l) μ Q := h
theorem ov_10 {d1 d2 : DE} {s0 s1 s2 s3 s4 s5 s6 s7 s8 s9 : SL} {d : D} {l : Ss} (h : d2 (s0 :: s1 :: s2 :: s3 :: s4 :: s5 :: s6 :: s7 :: s8 :: s9 :: .val d :: l) μ Q) : dOO 10 d1 d2 (s0 :: s1 :: s2 :: s3 :: s4 :: s5 :: s6 :: s7 :: s8 :: s9 :: .val d :: l) μ Q := h
theorem to_10 {d1 d2 : DT} {R : Bool → Ss → Mem → Prop} {s0 s1 s2 s3 s4 s5 s6 s7 s8 s9 : SL} {m : MO} {l : Ss} (h : d1 (s0 :: s1 :: s2 :: s3 :: s4 :: s5 :: s6 :: s7 :: s8 :: s9 :: .own m :: l) μ R) : dOT 10 d1 d2 (s0 :: s1 :: s2 :: s3 :: s4 :: s5 :: s6 :: s7 :: s8 :: s9 :: .own m :: l) μ R := h
theorem tv_10 {d1 d2 : DT} {R : Bool → Ss → Mem → Prop} {s0 s1 s2 s3 s4 s5 s6 s7 s8 s9 : SL} {d : D} {l : Ss} (h : d2 (s0 :: s1 :: s2 :: s3 :: s4 :: s5 :: s6 :: s7 :: s8 :: s9 :: .val d :: l) μ R) : dOT 10 d1 d2 (s0 :: s1 :: s2 :: s3 :: s4 :: s5 :: s6 :: s7 :: s8 :: s9 :: .val d :: l) μ R := h
theorem lo_10 {s0 s1 s2 s3 s4 s5 s6 s7 s8 s9 : SL} {a : List D} {l : Ss} (h : Q (.int a.length) (s0 :: s1 :: s2 :: s3 :: s4 :: s5 :: s6 :: s7 :: s8 :: s9 :: .own (.lst a) :: l) μ) : dLenO 10 (s0 :: s1 :: s2 :: s3 :: s4 :: s5 :: s6 :: s7 :: s8 :: s9 :: .own (.lst a) :: l) μ Q := ⟨a, rfl, h⟩
theorem so_10 {dl dh : DO} {s0 s1 s2 s3 s4 s5 s6 s7 s8 s9 : SL} {m : MO} {l : Ss} (h : dl (s0 :: s1 :: s2 :: s3 :: s4 :: s5 :: s6 :: s7 :: s8 :: s9 :: .own m :: l) μ fun lo δ1 μ1 => dh δ1 μ1 fun hi δ2 μ2 => SlO 10 lo hi δ2 μ2 Q) : dSlO 10 dl dh (s0 :: s1 :: s2 :: s3 :: s4 :: s5 :: s6 :: s7 :: s8 :: s9 :: .own m :: l) μ Q := ⟨⟨m, rfl⟩, h⟩
theorem se_10 {s0 s1 s2 s3 s4 s5 s6 s7 s8 s9 : SL} {a : List D} {lo hi : Option Int} {l : Ss} (h : Q (.lst (cutD a lo hi)) (s0 :: s1 :: s2 :: s3 :: s4 :: s5 :: s6 :: s7 :: s8 :: s9 :: .own (.lst a) :: l) μ) : SlO 10 lo hi (s0 :: s1 :: s2 :: s3 :: s4 :: s5 :: s6 :: s7 :: s8 :: s9 :: .own (.lst a) :: l) μ Q := ⟨a, rfl, h⟩
theorem xo_10 {db : DE} {s0 s1 s2 s3 s4 s5 s6 s7 s8 s9 : SL} {m : MO} {l : Ss} (h : db (s0 :: s1 :: s2 :: s3 :: s4 :: s5 :: s6 :: s7 :: s8 :: s9 :: .own m :: l) μ fun y δ1 μ1 => IxO 10 y δ1 μ1 Q) : dIxO 10 db (s0 :: s1 :: s2 :: s3 :: s4 :: s5 :: s6 :: s7 :: s8 :: s9 :: .own m :: l) μ Q := ⟨⟨m, rfl⟩, h⟩
theorem xe_10 {s0 s1 s2 s3 s4 s5 s6 s7 s8 s9 : SL} {a : List D} {y : D} {l : Ss} (h : rdIx (.lst a) y μ fun d μ1 => Q d (s0 :: s1 :: s2 :: s3 :: s4 :: s5 :: s6 :: s7 :: s8 :: s9 :: .own (.lst a) :: l) μ1) : IxO 10 y (s0 :: s1 :: s2 :: s3 :: s4 :: s5 :: s6 :: s7 :: s8 :: s9 :: .own (.lst a) :: l) μ Q := by
  obtain ⟨j, rfl, h | ⟨z, c, e, _⟩⟩ := h
  · obtain ⟨a2, d, e, h1, h2⟩ := h
    cases (show some a = some a2 from e)
    exact ⟨a, j, d, rfl, rfl, h1, h2⟩
  · cases e
theorem oo_11 {d1 d2 : DE} {s0 s1 s2 s3 s4 s5 s6 s7 s8 s9 s10 : SL} {m : MO} {l : Ss} (h : d1 (s0 :: s1 :: s2 :: s3 :: s4 :: s5 :: s6 :: s7 :: s8 :: s9 :: s10 :: .own m :: l) μ Q) : dOO 11 d1 d2 (s0 :: s1 :: s2 :: s3 :: s4 :: s5 :: s6 :: s7 :: s8 :: s9 :: s10 :: .own m :: l) μ Q := h
theorem ov_11 {d1 d2 : DE} {s0 s1 s2 s3 s4 s5 s6 s7 s8 s9 s10 : SL} {d : D} {l : Ss} (h : d2 (s0 :: s1 :: s2 :: s3 :: s4 :: s5 :: s6 :: s7 :: s8 :: s9 :: s10 :: .val d :: l) μ Q) : dOO 11 d1 d2 (s0 :: s1 :: s2 :: s3 :: s4 :: s5 :: s6 :: s7 :: s8 :: s9 :: s10 :: .val d :: l) μ Q := h
theorem to_11 {d1 d2 : DT} {R : Bool → Ss → Mem → Prop} {s0 s1 s2 s3 s4 s5 s6 s7 s8 s9 s10 : SL} {m : MO} {l : Ss} (h : d1 (s0 :: s1 :: s2 :: s3 :: s4 :: s5 :: s6 :: s7 :: s8 :: s9 :: s10 :: .own m :: l) μ R) : dOT 11 d1 d2 (s0 :: s1 :: s2 :: s3 :: s4 :: s5 :: s6 :: s7 :: s8 :: s9 :: s10 :: .own m :: l) μ R := h
theorem tv_11 {d1 d2 : DT} {R : Bool → Ss → Mem → Prop} {s0 s1 s2 s3 s4 s5 s6 s7 s8 s9 s10 : SL} {d : D} {l : Ss} (h : d2 (s0 :: s1 :: s2 :: s3 :: s4 :: s5 :: s6 :: s7 :: s8 :: s9 :: s10 :: .val d :: l) μ R) : dOT 11 d1 d2 (s0 :: s1 :: s2 :: s3 :: s4 :: s5 :: s6 :: s7 :: s8 :: s9 :: s10 :: .val d :: l) μ R := h
theorem lo_11 {s0 s1 s2 s3 s4 s5 s6 s7 s8 s9 s10 : SL} {a : List D} {l : Ss} (h : Q (.int a.length) (s0 :: s1 :: s2 :: s3 :: s4 :: s5 :: s6 :: s7 :: s8 :: s9 :: s10 :: .own (.lst a) :: l) μ) : dLenO 11 (s0 :: s1 :: s2 :: s3 :: s4 :: s5 :: s6 :: s7 :: s8 :: s9 :: s10 :: .own (.lst a) :: l) μ Q := ⟨a, rfl, h⟩
theorem so_11 {dl dh : DO} {s0 s1 s2 s3 s4 s5 s6 s7 s8 s9 s10 : SL} {m : MO} {l : Ss} (h : dl (s0 :: s1 :: s2 :: s3 :: s4 :: s5 :: s6 :: s7 :: s8 :: s9 :: s10 :: .own m :: l) μ fun lo δ1 μ1 => dh δ1 μ1 fun hi δ2 μ2 => SlO 11 lo hi δ2 μ2 Q) : dSlO 11 dl dh (s0 :: s1 :: s2 :: s3 :: s4 :: s5 :: s6 :: s7 :: s8 :: s9 :: s10 :: .own m :: l) μ Q := ⟨⟨m, rfl⟩, h⟩
theorem se_11 {s0 s1 s2 s3 s4 s5 s6 s7 s8 s9 s10 : SL} {a : List D} {lo hi : Option Int} {l : Ss} (h : Q (.lst (cutD a lo hi)) (s0 :: s1 :: s2 :: s3 :: s4 :: s5 :: s6 :: s7 :: s8 :: s9 :: s10 :: .own (.lst a) :: l) μ) : SlO 11 lo hi (s0 :: s1 :: s2 :: s3 :: s4 :: s5 :: s6 :: s7 :: s8 :: s9 :: s10 :: .own (.lst a) :: l) μ Q := ⟨a, rfl, h⟩
theorem xo_11 {db : DE} {s0 s1 s2 s3 s4 s5 s6 s7 s8 s9 s10 : SL} {m : MO} {l : Ss} (h : db (s0 :: s1 :: s2 :: s3 :: s4 :: s5 :: s6 :: s7 :: s8 :: s9 :: s10 :: .own m :: l) μ fun y δ1 μ1 => IxO 11 y δ1 μ1 Q) : dIxO 11 db (s0 :: s1 :: s2 :: s3 :: s4 :: s5 :: s6 :: s7 :: s8 :: s9 :: s10 :: .own m :: l) μ Q := ⟨⟨m, rfl⟩, h⟩
theorem xe_11 {s0 s1 s2 s3 s4 s5 s6 s7 s8 s9 s10 : SL} {a : List D} {y : D} {l : Ss} (h : rdIx (.lst a) y μ fun d μ1 => Q d (s0 :: s1 :: s2 :: s3 :: s4 :: s5 :: s6 :: s7 :: s8 :: s9 :: s10 :: .own (.lst a) :: l) μ1) : IxO 11 y (s0 :: s1 :: s2 :: s3 :: s4 :: s5 :: s6 :: s7 :: s8 :: s9 :: s10 :: .own (.lst a) :: l) μ Q := by
  obtain ⟨j, rfl, h | ⟨z, c, e, _⟩⟩ := h
  · obtain ⟨a2, d, e, h1, h2⟩ := h
    cases (show some a = some a2 from e)
    exact ⟨a, j, d, rfl, rfl, h1, h2⟩
  · cases e
def LmNx (lm : LM) (i : Nat) (ds : List D) (δ : Ss) (μ : Mem) (Q : QE) : Prop := ∃ l, δ[i]? = some (.own (.lst l)) ∧ lm ds l μ fun d l2 => Q d (δ.set i (.own (.lst l2))) μ
def EqV (neg : Bool) (x y : D) (μ : Mem) (R : D → Prop) : Prop := shD x = true ∧ shD (drf μ y) = true ∧ R (.bl (if neg then !eqD x (drf μ y) else eqD x (drf μ y)))
def EqNx (neg : Bool) (i : Nat) (y : D) (δ : Ss) (μ : Mem) (Q : QE) : Prop := ∃ l, δ[i]? = some (.own (.lst l)) ∧ EqV neg (.lst l) y μ fun d => Q d δ μ
theorem lm_0 {lm : LM} {da : DA} {a : List D} {l : Ss} (h : da (.own (.lst a) :: l) μ fun ds δ1 μ1 => LmNx lm 0 ds δ1 μ1 Q) : dLMO 0 lm da (.own (.lst a) :: l) μ Q := ⟨⟨a, rfl⟩, h⟩
theorem lme_0 {lm : LM} {ds : List D} {a : List D} {l : Ss} (h : lm ds a μ fun d l2 => Q d (.own (.lst l2) :: l) μ) : LmNx lm 0 ds (.own (.lst a) :: l) μ Q := ⟨a, rfl, h⟩
theorem eo_0 {neg : Bool} {db : DE} {a : List D} {l : Ss} (h : db (.own (.lst a) :: l) μ fun y δ1 μ1 => EqNx neg 0 y δ1 μ1 Q) : dEqO neg 0 db (.own (.lst a) :: l) μ Q := ⟨⟨a, rfl⟩, h⟩
theorem eoe_0 {neg : Bool} {y : D} {a : List D} {l : Ss} (h : EqV neg (.lst a) y μ fun d => Q d (.own (.lst a) :: l) μ) : EqNx neg 0 y (.own (.lst a) :: l) μ Q := ⟨a, rfl, h⟩
theorem lm_1 {lm : LM} {da : DA} {s0 : SL} {a : List D} {l : Ss} (h : da (s0 :: .own (.lst a) :: l) μ fun ds δ1 μ1 => LmNx lm 1 ds δ1 μ1 Q) : dLMO 1 lm da (s0 :: .own (.lst a) :: l) μ Q := ⟨⟨a, rfl⟩, h⟩
theorem lme_1 {lm : LM} {ds : List D} {s0 : SL} {a : List D} {l : Ss} (h : lm ds a μ fun d l2 => Q d (s0 :: .own (.lst l2) :: l) μ) : LmNx lm 1 ds (s0 :: .own (.lst a) :: l) μ Q := ⟨a, rfl, h⟩
theorem eo_1 {neg : Bool} {db : DE} {s0 : SL} {a : List D} {l : Ss} (h : db (s0 :: .own (.lst a) :: l) μ fun y δ1 μ1 => EqNx neg 1 y δ1 μ1 Q) : dEqO neg 1 db (s0 :: .own (.lst a) :: l) μ Q := ⟨⟨a, rfl⟩, h⟩
theorem eoe_1 {neg : Bool} {y : D} {s0 : SL} {a : List D} {l : Ss} (h : EqV neg (.lst a) y μ fun d => Q d (s0 :: .own (.lst a) :: l) μ) : EqNx neg 1 y (s0 :: .own (.lst a) :: l) μ Q := ⟨a, rfl, h⟩
theorem lm_2 {lm : LM} {da : DA} {s0 s1 : SL} {a : List D} {l : Ss} (h : da (s0 :: s1 :: .own (.lst a) :: l) μ fun ds δ1 μ1 => LmNx lm 2 ds δ1 μ1 Q) : dLMO 2 lm da (s0 :: s1 :: .own (.lst a) :: l) μ Q := ⟨⟨a, rfl⟩, h⟩
theorem lme_2 {lm : LM} {ds : List D} {s0 s1 : SL} {a : List D} {l : Ss} (h : lm ds a μ fun d l2 => Q d (s0 :: s1 :: .own (.lst l2) :: l) μ) : LmNx lm 2 ds (s0 :: s1 :: .own (.lst a) :: l) μ Q := ⟨a, rfl, h⟩
theorem eo_2 {neg : Bool} {db : DE} {s0 s1 : SL} {a : List D} {l : Ss} (h : db (s0 :: s1 :: .own (.lst a) :: l) μ fun y δ1 μ1 => EqNx neg 2 y δ1 μ1 Q) : dEqO neg 2 db (s0 :: s1 :: .own (.lst a) :: l) μ Q := ⟨⟨a, rfl⟩, h⟩
theorem eoe_2 {neg : Bool} {y : D} {s0 s1 : SL} {a : List D} {l : Ss} (h : EqV neg (.lst a) y μ fun d => Q d (s0 :: s1 :: .own (.lst a) :: l) μ) : EqNx neg 2 y (s0 :: s1 :: .own (.lst a) :: l) μ Q := ⟨a, rfl, h⟩
theorem lm_3 {lm : LM} {da : DA} {s0 s1 s2 : SL} {a : List D} {l : Ss} (h : da (s0 :: s1 :: s2 :: .own (.lst a) :: l) μ fun ds δ1 μ1 => LmNx lm 3 ds δ1 μ1 Q) : dLMO 3 lm da (s0 :: s1 :: s2 :: .own (.lst a) :: l) μ Q := ⟨⟨a, rfl⟩, h⟩
theorem lme_3 {lm : LM} {ds : List D} {s0 s1 s2 : SL} {a : List D} {l : Ss} (h : lm ds a μ fun d l2 => Q d (s0 :: s1 :: s2 :: .own (.lst l2) :: l) μ) : LmNx lm 3 ds (s0 :: s1 :: s2 :: .own (.lst a) :: l) μ Q := ⟨a, rfl, h⟩
theorem eo_3 {neg : Bool} {db : DE} {s0 s1 s2 : SL} {a : List D} {l : Ss} (h : db (s0 :: s1 :: s2 :: .own (.lst a) :: l) μ fun y δ1 μ1 => EqNx neg 3 y δ1 μ1 Q) : dEqO neg 3 db (s0 :: s1 :: s2 :: .own (.lst a) :: l) μ Q := ⟨⟨a, rfl⟩, h⟩
theorem eoe_3 {neg : Bool} {y : D} {s0 s1 s2 : SL} {a : List D} {l : Ss} (h : EqV neg (.lst a) y μ fun d => Q d (s0 :: s1 :: s2 :: .own (.lst a) :: l) μ) : EqNx neg 3 y (s0 :: s1 :: s2 :: .own (.lst a) :: l) μ Q := ⟨a, rfl, h⟩
theorem lm_4 {lm : LM} {da : DA} {s0 s1 s2 s3 : SL} {a : List D} {l : Ss} (h : da (s0 :: s1 :: s2 :: s3 :: .own (.lst a) :: l) μ fun ds δ1 μ1 => LmNx lm 4 ds δ1 μ1 Q) : dLMO 4 lm da (s0 :: s1 :: s2 :: s3 :: .own (.lst a) :: l) μ Q := ⟨⟨a, rfl⟩, h⟩
theorem lme_4 {lm : LM} {ds : List D} {s0 s1 s2 s3 : SL} {a : List D} {l : Ss} (h : lm ds a μ fun d l2 => Q d (s0 :: s1 :: s2 :: s3 :: .own (.lst l2) :: l) μ) : LmNx lm 4 ds (s0 :: s1 :: s2 :: s3 :: .own (.lst a) :: l) μ Q := ⟨a, rfl, h⟩
theorem eo_4 {neg : Bool} {db : DE} {s0 s1 s2 s3 : SL} {a : List D} {l : Ss} (h : db (s0 :: s1 :: s2 :: s3 :: .own (.lst a) :: l) μ fun y δ1 μ1 => EqNx neg 4 y δ1 μ1 Q) : dEqO neg 4 db (s0 :: s1 :: s2 :: s3 :: .own (.lst a) :: l) μ Q := ⟨⟨a, rfl⟩, h⟩
theorem eoe_4 {neg : Bool} {y : D} {s0 s1 s2 s3 : SL} {a : List D} {l : Ss} (h : EqV neg (.lst a) y μ fun d => Q d (s0 :: s1 :: s2 :: s3 :: .own (.lst a) :: l) μ) : EqNx neg 4 y (s0 :: s1 :: s2 :: s3 :: .own (.lst a) :: l) μ Q := ⟨a, rfl, h⟩
theorem lm_5 {lm : LM} {da : DA} {s0 s1 s2 s3 s4 : SL} {a : List D} {l : Ss} (h : da (s0 :: s1 :: s2 :: s3 :: s4 :: .own (.lst a) :: l) μ fun ds δ1 μ1 => LmNx lm 5 ds δ1 μ1 Q) : dLMO 5 lm da (s0 :: s1 :: s2 :: s3 :: s4 :: .own (.lst a) :: l) μ Q := ⟨⟨a, rfl⟩, h⟩
theorem lme_5 {lm : LM} {ds : List D} {s0 s1 s2 s3 s4 : SL} {a : List D} {l : Ss} (h : lm ds a μ fun d l2 => Q d (s0 :: s1 :: s2 :: s3 :: s4 :: .own (.lst l2) :: l) μ) : LmNx lm 5 ds (s0 :: s1 :: s2 :: s3 :: s4 :: .own (.lst a) :: l) μ Q := ⟨a, rfl, h⟩
theorem eo_5 {neg : Bool} {db : DE} {s0 s1 s2 s3 s4 : SL} {a : List D} {l : Ss} (h : db (s0 :: s1 :: s2 :: s3 :: s4 :: .own (.lst a) :: l) μ fun y δ1 μ1 => EqNx neg 5 y δ1 μ1 Q) : dEqO neg 5 db (s0 :: s1 :: s2 :: s3 :: s4 :: .own (.lst a) :: l) μ Q := ⟨⟨a, rfl⟩, h⟩
theorem eoe_5 {neg : Bool} {y : D} {s0 s1 s2 s3 s4 : SL} {a : List D} {l : Ss} (h : EqV neg (.lst a) y μ fun d => Q d (s0 :: s1 :: s2 :: s3 :: s4 :: .own (.lst a) :: l) μ) : EqNx neg 5 y (s0 :: s1 :: s2 :: s3 :: s4 :: .own (.lst a) :: l) μ Q := ⟨a, rfl, h⟩
theorem lm_6 {lm : LM} {da : DA} {s0 s1 s2 s3 s4 s5 : SL} {a : List D} {l : Ss} (h : da (s0 :: s1 :: s2 :: s3 :: s4 :: s5 :: .own (.lst a) :: l) μ fun ds δ1 μ1 => LmNx lm 6 ds δ1 μ1 Q) : dLMO 6 lm da (s0 :: s1 :: s2 :: s3 :: s4 :: s5 :: .own (.lst a) :: l) μ Q := ⟨⟨a, rfl⟩, h⟩
theorem lme_6 {lm : LM} {ds : List D} {s0 s1 s2 s3 s4 s5 : SL} {a : List D} {l : Ss} (h : lm ds a μ fun d l2 => Q d (s0 :: s1 :: s2 :: s3 :: s4 :: s5 :: .own (.lst l2) :: l) μ) : LmNx lm 6 ds (s0 :: s1 :: s2 :: s3 :: s4 :: s5 :: .own (.lst a) :: l) μ Q := ⟨a, rfl, h⟩
theorem eo_6 {neg : Bool} {db : DE} {s0 s1 s2 s3 s4 s5 : SL} {a : List D} {l : Ss} (h : db (s0 :: s1 :: s2 :: s3 :: s4 :: s5 :: .own (.lst a) :: l) μ fun y δ1 μ1 => EqNx neg 6 y δ1 μ1 Q) : dEqO neg 6 db (s0 :: s1 :: s2 :: s3 :: s4 :: s5 :: .own (.lst a) :: l) μ Q := ⟨⟨a, rfl⟩, h⟩
theorem eoe_6 {neg : Bool} {y : D} {s0 s1 s2 s3 s4 s5 : SL} {a : List D} {l : Ss} (h : EqV neg (.lst a) y μ fun d => Q d (s0 :: s1 :: s2 :: s3 :: s4 :: s5 :: .own (.lst a) :: l) μ) : EqNx neg 6 y (s0 :: s1 :: s2 :: s3 :: s4 :: s5 :: .own (.lst a) :: l) μ Q := ⟨a, rfl, h⟩
theorem lm_7 {lm : LM} {da : DA} {s0 s1 s2 s3 s4 s5 s6 : SL} {a : List D} {l : Ss} (h : da (s0 :: s1 :: s2 :: s3 :: s4 :: s5 :: s6 :: .own (.lst a) :: l) μ fun ds δ1 μ1 => LmNx lm 7 ds δ1 μ1 Q) : dLMO 7 lm da (s0 :: s1 :: s2 :: s3 :: s4 :: s5 :: s6 :: .own (.lst a) :: l) μ Q := ⟨⟨a, rfl⟩, h⟩
theorem lme_7 {lm : LM} {ds : List D} {s0 s1 s2 s3 s4 s5 s6 : SL} {a : List D} {l : Ss} (h : lm ds a μ fun d l2 => Q d (s0 :: s1 :: s2 :: s3 :: s4 :: s5 :: s6 :: .own (.lst l2) :: l) μ) : LmNx lm 7 ds (s0 :: s1 :: s2 :: s3 :: s4 :: s5 :: s6 :: .own (.lst a) :: l) μ Q := ⟨a, rfl, h⟩
theorem eo_7 {neg : Bool} {db : DE} {s0 s1 s2 s3 s4 s5 s6 : SL} {a : List D} {l : Ss} (h : db (s0 :: s1 :: s2 :: s3 :: s4 :: s5 :: s6 :: .own (.lst a) :: l) μ fun y δ1 μ1 => EqNx neg 7 y δ1 μ1 Q) : dEqO neg 7 db (s0 :: s1 :: s2 :: s3 :: s4 :: s5 :: s6 :: .own (.lst a) :: l) μ Q := ⟨⟨a, rfl⟩, h⟩
theorem eoe_7 {neg : Bool} {y : D} {s0 s1 s2 s3 s4 s5 s6 : SL} {a : List D} {l : Ss} (h : EqV neg (.lst a) y μ fun d => Q d (s0 :: s1 :: s2 :: s3 :: s4 :: s5 :: s6 :: .own (.lst a) :: l) μ) : EqNx neg 7 y (s0 :: s1 :: s2 :: s3 :: s4 :: s5 :: s6 :: .own (.lst a) :: l) μ Q := ⟨a, rfl, h⟩
theorem lm_8 {lm : LM} {da : DA} {s0 s1 s2 s3 s4 s5 s6 s7 : SL} {a : List D} {l : Ss} (h : da (s0 :: s1 :: s2 :: s3 :: s4 :: s5 :: s6 :: s7 :: .own (.lst a) :: l) μ fun ds δ1 μ1 => LmNx lm 8 ds δ1 μ1 Q) : dLMO 8 lm da (s0 :: s1 :: s2 :: s3 :: s4 :: s5 :: s6 :: s7 :: .own (.lst a) :: l) μ Q := ⟨⟨a, rfl⟩, h⟩
theorem lme_8 {lm : LM} {ds : List D} {s0 s1 s2 s3 s4 s5 s6 s7 : SL} {a : List D} {l : Ss} (h : lm ds a μ fun d l2 => Q d (s0 :: s1 :: s2 :: s3 :: s4 :: s5 :: s6 :: s7 :: .own (.lst l2) :: l) μ) : LmNx lm 8 ds (s0 :: s1 :: s2 :: s3 :: s4 :: s5 :: s6 :: s7 :: .own (.lst a) :: l) μ Q := ⟨a, rfl, h⟩
theorem eo_8 {neg : Bool} {db : DE} {s0 s1 s2 s3 s4 s5 s6 s7 : SL} {a : List D} {l : Ss} (h : db (s0 :: s1 :: s2 :: s3 :: s4 :: s5 :: s6 :: s7 :: .own (.lst a) :: l) μ fun y δ1 μ1 => EqNx neg 8 y δ1 μ1 Q) : dEqO neg 8 db (s0 :: s1 :: s2 :: s3 :: s4 :: s5 :: s6 :: s7 :: .own (.lst a) :: l) μ Q := ⟨⟨a, rfl⟩, h⟩
theorem eoe_8 {neg : Bool} {y : D} {s0 s1 s2 s3 s4 s5 s6 s7 : SL} {a : List D} {l : Ss} (h : EqV neg (.lst a) y μ fun d => Q d (s0 :: s1 :: s2 :: s3 :: s4 :: s5 :: s6 :: s7 :: .own (.lst a) :: l) μ) : EqNx neg 8 y (s0 :: s1 :: s2 :: s3 :: s4 :: s5 :: s6 :: s7 :: .own (.lst a) :: l) μ Q := ⟨a, rfl, h⟩
theorem lm_9 {lm : LM} {da : DA} {s0 s1 s2 s3 s4 s5 s6 s7 s8 : SL} {a : List D} {l : Ss} (h : da (s0 :: s1 :: s2 :: s3 :: s4 :: s5 :: s6 :: s7 :: s8 :: .own (.lst a) :: l) μ fun ds δ1 μ1 => LmNx lm 9 ds δ1 μ1 Q) : dLMO 9 lm da (s0 :: s1 :: s2 :: s3 :: s4 :: s5 :: s6 :: s7 :: s8 :: .own (.lst a) :: l) μ Q := ⟨⟨a, rfl⟩, h⟩
theorem lme_9 {lm : LM} {ds : List D} {s0 s1 s2 s3 s4 s5 s6 s7 s8 : SL} {a : List D} {l : Ss} (h : lm ds a μ fun d l2 => Q d (s0 :: s1 :: s2 :: s3 :: s4 :: s5 :: s6 :: s7 :: s8 :: .own (.lst l2) :: l) μ) : LmNx lm 9 ds (s0 :: s1 :: s2 :: s3 :: s4 :: s5 :: s6 :: s7 :: s8 :: .own (.lst a) :: l) μ Q := ⟨a, rfl, h⟩
theorem eo_9 {neg : Bool} {db : DE} {s0 s1 s2 s3 s4 s5 s6 s7 s8 : SL} {a : List D} {l : Ss} (h : db (s0 :: s1 :: s2 :: s3 :: s4 :: s5 :: s6 :: s7 :: s8 :: .own (.lst a) :: l) μ fun y δ1 μ1 => EqNx neg 9 y δ1 μ1 Q) : dEqO neg 9 db (s0 :: s1 :: s2 :: s3 :: s4 :: s5 :: s6 :: s7 :: s8 :: .own (.lst a) :: l) μ Q := ⟨⟨a, rfl⟩, h⟩
theorem eoe_9 {neg : Bool} {y : D} {s0 s1 s2 s3 s4 s5 s6 s7 s8 : SL} {a : List D} {l : Ss} (h : EqV neg (.lst a) y μ fun d => Q d (s0 :: s1 :: s2 :: s3 :: s4 :: s5 :: s6 :: s7 :: s8 :: .own (.lst a) :: l) μ) : EqNx neg 9 y (s0 :: s1 :: s2 :: s3 :: s4 :: s5 :: s6 :: s7 :: s8 :: .own (.lst a) :: l) μ Q := ⟨a, rfl, h⟩
theorem lm_10 {lm : LM} {da : DA} {s0 s1 s2 s3 s4 s5 s6 s7 s8 s9 : SL} {a : List D} {l : Ss} (h : da (s0 :: s1 :: s2 :: s3 :: s4 :: s5 :: s6 :: s7 :: s8 :: s9 :: .own (.lst a) :: l) μ fun ds δ1 μ1 => LmNx lm 10 ds δ1 μ1 Q) : dLMO 10 lm da (s0 :: s1 :: s2 :: s3 :: s4 :: s5 :: s6 :: s7 :: s8 :: s9 :: .own (.lst a) :: l) μ Q := ⟨⟨a, rfl⟩, h⟩
theorem lme_10 {lm : LM} {ds : List D} {s0 s1 s2 s3 s4 s5 s6 s7 s8 s9 : SL} {a : List D} {l : Ss} (h : lm ds a μ fun d l2 => Q d (s0 :: s1 :: s2 :: s3 :: s4 :: s5 :: s6 :: s7 :: s8 :: s9 :: .own (.lst l2) :: l) μ) : LmNx lm 10 ds (s0 :: s1 :: s2 :: s3 :: s4 :: s5 :: s6 :: s7 :: s8 :: s9 :: .own (.lst a) :: l) μ Q := ⟨a, rfl, h⟩
theorem eo_10 {neg : Bool} {db : DE} {s0 s1 s2 s3 s4 s5 s6 s7 s8 s9 : SL} {a : List D} {l : Ss} (h : db (s0 :: s1 :: s2 :: s3 :: s4 :: s5 :: s6 :: s7 :: s8 :: s9 :: .own (.lst a) :: l) μ fun y δ1 μ1 => EqNx neg 10 y δ1 μ1 Q) : dEqO neg 10 db (s0 :: s1 :: s2 :: s3 :: s4 :: s5 :: s6 :: s7 :: s8 :: s9 :: .own (.lst a) :: l) μ Q := ⟨⟨a, rfl⟩, h⟩
theorem eoe_10 {neg : Bool} {y : D} {s0 s1 s2 s3 s4 s5 s6 s7 s8 s9 : SL} {a : List D} {l : Ss} (h : EqV neg (.lst a) y μ fun d => Q d (s0 :: s1 :: s2 :: s3 :: s4 :: s5 :: s6 :: s7 :: s8 :: s9 :: .own (.lst a) :: l) μ) : EqNx neg 10 y (s0 :: s1 :: s2 :: s3 :: s4 :: s5 :: s6 :: s7 :: s8 :: s9 :: .own (.lst a) :: l) μ Q := ⟨a, rfl, h⟩
theorem lm_11 {lm : LM} {da : DA} {s0 s1 s2 s3 s4 s5 s6 s7 s8 s9 s10 : SL} {a : List D} {l : Ss} (h : da (s0 :: s1 :: s2 :: s3 :: s4 :: s5 :: s6 :: s7 :: s8 :: s9 :: s10 :: .own (.lst a) :: l) μ fun ds δ1 μ1 => LmNx lm 11 ds δ1 μ1 Q) : dLMO 11 lm da (s0 :: s1 :: s2 :: s3 :: s4 :: s5 :: s6 :: s7 :: s8 :: s9 :: s10 :: .own (.lst a) :: l) μ Q := ⟨⟨a, rfl⟩, h⟩
theorem lme_11 {lm : LM} {ds : List D} {s0 s1 s2 s3 s4 s5 s6 s7 s8 s9 s10 : SL} {a : List D} {l : Ss} (h : lm ds a μ fun d l2 => Q d (s0 :: s1 :: s2 :: s3 :: s4 :: s5 :: s6 :: s7 :: s8 :: s9 :: s10 :: .own (.lst l2) :: l) μ) : LmNx lm 11 ds (s0 :: s1 :: s2 :: s3 :: s4 :: s5 :: s6 :: s7 :: s8 :: s9 :: s10 :: .own (.lst a) :: l) μ Q := ⟨a, rfl, h⟩
theorem eo_11 {neg : Bool} {db : DE} {s0 s1 s2 s3 s4 s5 s6 s7 s8 s9 s10 : SL} {a : List D} {l : Ss} (h : db (s0 :: s1 :: s2 :: s3 :: s4 :: s5 :: s6 :: s7 :: s8 :: s9 :: s10 :: .own (.lst a) :: l) μ fun y δ1 μ1 => EqNx neg 11 y δ1 μ1 Q) : dEqO neg 11 db (s0 :: s1 :: s2 :: s3 :: s4 :: s5 :: s6 :: s7 :: s8 :: s9 :: s10 :: .own (.lst a) :: l) μ Q := ⟨⟨a, rfl⟩, h⟩
theorem eoe_11 {neg : Bool} {y : D} {s0 s1 s2 s3 s4 s5 s6 s7 s8 s9 s10 : SL} {a : List D} {l : Ss} (h : EqV neg (.lst a) y μ fun d => Q d (s0 :: s1 :: s2 :: s3 :: s4 :: s5 :: s6 :: s7 :: s8 :: s9 :: s10 :: .own (.lst a) :: l) μ) : EqNx neg 11 y (s0 :: s1 :: s2 :: s3 :: s4 :: s5 :: s6 :: s7 :: s8 :: s9 :: s10 :: .own (.lst a) :: l) μ Q := ⟨a, rfl, h⟩
theorem atI_nat {l : List D} {i : Nat} {d : D} (h : l[i]? = some d) : atI l ((i : Nat) : Int) = some d := by
  have hi : i < l.length := (List.getElem?_eq_some_iff.mp h).1
  unfold L2.atI ixN
  rw [if_pos (by omega), if_pos (by omega)]
  simpa using h
theorem atI_int {l : List D} {i : Int} (h0 : 0 ≤ i) (h1 : i < l.length) : ∃ d, d ∈ l ∧ atI l i = some d := by
  obtain ⟨n, rfl⟩ := Int.eq_ofNat_of_zero_le h0
  have hn : n < l.length := by omega
  exact ⟨l[n], List.getElem_mem hn, atI_nat (by simp [hn])⟩
theorem atS_int {l : List Nat} {i : Int} (h0 : 0 ≤ i) (h1 : i < l.length) : ∃ d, d ∈ l ∧ L2.atI l i = some d := by
  obtain ⟨n, rfl⟩ := Int.eq_ofNat_of_zero_le h0
  have hn : n < l.length := by omega
  refine ⟨l[n], List.getElem_mem hn, ?_⟩
  unfold L2.atI ixN
  rw [if_pos (by omega), if_pos (by omega)]
  simp [hn]
theorem ixl_0 {d : D} {r : List D} (h : QM' d μ) : rdIx (.lst (d :: r)) (.int 0) μ QM' := ⟨0, rfl, .inl ⟨_, d, rfl, atI_nat (i := 0) rfl, h⟩⟩
theorem ixt_0 {d : D} {r : List D} (h : QM' d μ) : rdIx (.tup (d :: r)) (.int 0) μ QM' := ⟨0, rfl, .inl ⟨_, d, rfl, atI_nat (i := 0) rfl, h⟩⟩
theorem ixl_1 {b0 : D} {d : D} {r : List D} (h : QM' d μ) : rdIx (.lst (b0 :: d :: r)) (.int 1) μ QM' := ⟨1, rfl, .inl ⟨_, d, rfl, atI_nat (i := 1) rfl, h⟩⟩
theorem ixt_1 {b0 : D} {d : D} {r : List D} (h : QM' d μ) : rdIx (.tup (b0 :: d :: r)) (.int 1) μ QM' := ⟨1, rfl, .inl ⟨_, d, rfl, atI_nat (i := 1) rfl, h⟩⟩
theorem ixl_2 {b0 b1 : D} {d : D} {r : List D} (h : QM' d μ) : rdIx (.lst (b0 :: b1 :: d :: r)) (.int 2) μ QM' := ⟨2, rfl, .inl ⟨_, d, rfl, atI_nat (i := 2) rfl, h⟩⟩
theorem ixt_2 {b0 b1 : D} {d : D} {r : List D} (h : QM' d μ) : rdIx (.tup (b0 :: b1 :: d :: r)) (.int 2) μ QM' := ⟨2, rfl, .inl ⟨_, d, rfl, atI_nat (i := 2) rfl, h⟩⟩
theorem ixl_3 {b0 b1 b2 : D} {d : D} {r : List D} (h : QM' d μ) : rdIx (.lst (b0 :: b1 :: b2 :: d :: r)) (.int 3) μ QM' := ⟨3, rfl, .inl ⟨_, d, rfl, atI_nat (i := 3) rfl, h⟩⟩
theorem ixt_3 {b0 b1 b2 : D} {d : D} {r : List D} (h : QM' d μ) : rdIx (.tup (b0 :: b1 :: b2 :: d :: r)) (.int 3) μ QM' := ⟨3, rfl, .inl ⟨_, d, rfl, atI_nat (i := 3) rfl, h⟩⟩
theorem ixl_4 {b0 b1 b2 b3 : D} {d : D} {r : List D} (h : QM' d μ) : rdIx (.lst (b0 :: b1 :: b2 :: b3 :: d :: r)) (.int 4) μ QM' := ⟨4, rfl, .inl ⟨_, d, rfl, atI_nat (i := 4) rfl, h⟩⟩
theorem ixt_4 {b0 b1 b2 b3 : D} {d : D} {r : List D} (h : QM' d μ) : rdIx (.tup (b0 :: b1 :: b2 :: b3 :: d :: r)) (.int 4) μ QM' := ⟨4, rfl, .inl ⟨_, d, rfl, atI_nat (i := 4) rfl, h⟩⟩
theorem ixl_5 {b0 b1 b2 b3 b4 : D} {d : D} {r : List D} (h : QM' d μ) : rdIx (.lst (b0 :: b1 :: b2 :: b3 :: b4 :: d :: r)) (.int 5) μ QM' := ⟨5, rfl, .inl ⟨_, d, rfl, atI_nat (i := 5) rfl, h⟩⟩
theorem ixt_5 {b0 b1 b2 b3 b4 : D} {d : D} {r : List D} (h : QM' d μ) : rdIx (.tup (b0 :: b1 :: b2 :: b3 :: b4 :: d :: r)) (.int 5) μ QM' := ⟨5, rfl, .inl ⟨_, d, rfl, atI_nat (i := 5) rfl, h⟩⟩
theorem ixl_6 {b0 b1 b2 b3 b4 b5 : D} {d : D} {r : List D} (h : QM' d μ) : rdIx (.lst (b0 :: b1 :: b2 :: b3 :: b4 :: b5 :: d :: r)) (.int 6) μ QM' := ⟨6, rfl, .inl ⟨_, d, rfl, atI_nat (i := 6) rfl, h⟩⟩
theorem ixt_6 {b0 b1 b2 b3 b4 b5 : D} {d : D} {r : List D} (h : QM' d μ) : rdIx (.tup (b0 :: b1 :: b2 :: b3 :: b4 :: b5 :: d :: r)) (.int 6) μ QM' := ⟨6, rfl, .inl ⟨_, d, rfl, atI_nat (i := 6) rfl, h⟩⟩
theorem ixl_7 {b0 b1 b2 b3 b4 b5 b6 : D} {d : D} {r : List D} (h : QM' d μ) : rdIx (.lst (b0 :: b1 :: b2 :: b3 :: b4 :: b5 :: b6 :: d :: r)) (.int 7) μ QM' := ⟨7, rfl, .inl ⟨_, d, rfl, atI_nat (i := 7) rfl, h⟩⟩
theorem ixt_7 {b0 b1 b2 b3 b4 b5 b6 : D} {d : D} {r : List D} (h : QM' d μ) : rdIx (.tup (b0 :: b1 :: b2 :: b3 :: b4 :: b5 :: b6 :: d :: r)) (.int 7) μ QM' := ⟨7, rfl, .inl ⟨_, d, rfl, atI_nat (i := 7) rfl, h⟩⟩
theorem ixl_8 {b0 b1 b2 b3 b4 b5 b6 b7 : D} {d : D} {r : List D} (h : QM' d μ) : rdIx (.lst (b0 :: b1 :: b2 :: b3 :: b4 :: b5 :: b6 :: b7 :: d :: r)) (.int 8) μ QM' := ⟨8, rfl, .inl ⟨_, d, rfl, atI_nat (i := 8) rfl, h⟩⟩
theorem ixt_8 {b0 b1 b2 b3 b4 b5 b6 b7 : D} {d : D} {r : List D} (h : QM' d μ) : rdIx (.tup (b0 :: b1 :: b2 :: b3 :: b4 :: b5 :: b6 :: b7 :: d :: r)) (.int 8) μ QM' := ⟨8, rfl, .inl ⟨_, d, rfl, atI_nat (i := 8) rfl, h⟩⟩
theorem ixl_9 {b0 b1 b2 b3 b4 b5 b6 b7 b8 : D} {d : D} {r : List D} (h : QM' d μ) : rdIx (.lst (b0 :: b1 :: b2 :: b3 :: b4 :: b5 :: b6 :: b7 :: b8 :: d :: r)) (.int 9) μ QM' := ⟨9, rfl, .inl ⟨_, d, rfl, atI_nat (i := 9) rfl, h⟩⟩
theorem ixt_9 {b0 b1 b2 b3 b4 b5 b6 b7 b8 : D} {d : D} {r : List D} (h : QM' d μ) : rdIx (.tup (b0 :: b1 :: b2 :: b3 :: b4 :: b5 :: b6 :: b7 :: b8 :: d :: r)) (.int 9) μ QM' := ⟨9, rfl, .inl ⟨_, d, rfl, atI_nat (i := 9) rfl, h⟩⟩
theorem cutk_1 {b0 : D} {r : List D} : Dl.cutD (b0 :: r) none (some 1) = [b0] := by
  have e : HT.sIx (b0 :: r).length (b0 :: r).length (some ((1 : Nat) : Int)) = 1 := by rw [HT.sIx_nat]; simp only [List.length_cons]; omega
  unfold Dl.cutD
  rw [show (some (1 : Int)) = some ((1 : Nat) : Int) from rfl, e]
  rfl
theorem slt_1 {b0 : D} {r : List D} (h : QM' (.tup [b0]) μ) : rdSl (.tup (b0 :: r)) none (some 1) μ QM' := i_slT (by rw [cutk_1]; exact h)
theorem cutk_2 {b0 b1 : D} {r : List D} : Dl.cutD (b0 :: b1 :: r) none (some 2) = [b0, b1] := by
  have e : HT.sIx (b0 :: b1 :: r).length (b0 :: b1 :: r).length (some ((2 : Nat) : Int)) = 2 := by rw [HT.sIx_nat]; simp only [List.length_cons]; omega
  unfold Dl.cutD
  rw [show (some (2 : Int)) = some ((2 : Nat) : Int) from rfl, e]
  rfl
theorem slt_2 {b0 b1 : D} {r : List D} (h : QM' (.tup [b0, b1]) μ) : rdSl (.tup (b0 :: b1 :: r)) none (some 2) μ QM' := i_slT (by rw [cutk_2]; exact h)
theorem cutk_3 {b0 b1 b2 : D} {r : List D} : Dl.cutD (b0 :: b1 :: b2 :: r) none (some 3) = [b0, b1, b2] := by
  have e : HT.sIx (b0 :: b1 :: b2 :: r).length (b0 :: b1 :: b2 :: r).length (some ((3 : Nat) : Int)) = 3 := by rw [HT.sIx_nat]; simp only [List.length_cons]; omega
  unfold Dl.cutD
  rw [show (some (3 : Int)) = some ((3 : Nat) : Int) from rfl, e]
  rfl
theorem slt_3 {b0 b1 b2 : D} {r : List D} (h : QM' (.tup [b0, b1, b2]) μ) : rdSl (.tup (b0 :: b1 :: b2 :: r)) none (some 3) μ QM' := i_slT (by rw [cutk_3]; exact h)
theorem cutk_4 {b0 b1 b2 b3 : D} {r : List D} : Dl.cutD (b0 :: b1 :: b2 :: b3 :: r) none (some 4) = [b0, b1, b2, b3] := by
  have e : HT.sIx (b0 :: b1 :: b2 :: b3 :: r).length (b0 :: b1 :: b2 :: b3 :: r).length (some ((4 : Nat) : Int)) = 4 := by rw [HT.sIx_nat]; simp only [List.length_cons]; omega
  unfold Dl.cutD
  rw [show (some (4 : Int)) = some ((4 : Nat) : Int) from rfl, e]
  rfl
theorem slt_4 {b0 b1 b2 b3 : D} {r : List D} (h : QM' (.tup [b0, b1, b2, b3]) μ) : rdSl (.tup (b0 :: b1 :: b2 :: b3 :: r)) none (some 4) μ QM' := i_slT (by rw [cutk_4]; exact h)
theorem cutk_5 {b0 b1 b2 b3 b4 : D} {r : List D} : Dl.cutD (b0 :: b1 :: b2 :: b3 :: b4 :: r) none (some 5) = [b0, b1, b2, b3, b4] := by
  have e : HT.sIx (b0 :: b1 :: b2 :: b3 :: b4 :: r).length (b0 :: b1 :: b2 :: b3 :: b4 :: r).length (some ((5 : Nat) : Int)) = 5 := by rw [HT.sIx_nat]; simp only [List.length_cons]; omega
  unfold Dl.cutD
  rw [show (some (5 : Int)) = some ((5 : Nat) : Int) from rfl, e]
  rfl
theorem slt_5 {b0 b1 b2 b3 b4 : D} {r : List D} (h : QM' (.tup [b0, b1, b2, b3, b4]) μ) : rdSl (.tup (b0 :: b1 :: b2 :: b3 :: b4 :: r)) none (some 5) μ QM' := i_slT (by rw [cutk_5]; exact h)
theorem atI_last {l : List D} {d : D} (h : l.getLast? = some d) : atI l (-1) = some d := by
  have hl : 0 < l.length := by cases l with | nil => cases h | cons a l => simp
  unfold L2.atI ixN
  rw [if_neg (by omega), if_pos (by omega)]
  rw [List.getLast?_eq_getElem?] at h
  show l[((l.length : Int) + -1).toNat]? = some d
  rw [show ((l.length : Int) + -1).toNat = l.length - 1 by omega]
  exact h
theorem pw_10_2 (h : QM' (.int 100) μ) : rdPow (.int 10) (.int 2) μ QM' := ⟨10, 2, rfl, rfl, ⟨by decide, by decide, by decide⟩, h⟩
theorem pw_10_3 (h : QM' (.int 1000) μ) : rdPow (.int 10) (.int 3) μ QM' := ⟨10, 3, rfl, rfl, ⟨by decide, by decide, by decide⟩, h⟩
theorem pw_10_4 (h : QM' (.int 10000) μ) : rdPow (.int 10) (.int 4) μ QM' := ⟨10, 4, rfl, rfl, ⟨by decide, by decide, by decide⟩, h⟩
theorem pw_10_5 (h : QM' (.int 100000) μ) : rdPow (.int 10) (.int 5) μ QM' := ⟨10, 5, rfl, rfl, ⟨by decide, by decide, by decide⟩, h⟩
theorem pw_10_6 (h : QM' (.int 1000000) μ) : rdPow (.int 10) (.int 6) μ QM' := ⟨10, 6, rfl, rfl, ⟨by decide, by decide, by decide⟩, h⟩
theorem pw_10_7 (h : QM' (.int 10000000) μ) : rdPow (.int 10) (.int 7) μ QM' := ⟨10, 7, rfl, rfl, ⟨by decide, by decide, by decide⟩, h⟩
theorem pw_10_8 (h : QM' (.int 100000000) μ) : rdPow (.int 10) (.int 8) μ QM' := ⟨10, 8, rfl, rfl, ⟨by decide, by decide, by decide⟩, h⟩
theorem pw_10_9 (h : QM' (.int 1000000000) μ) : rdPow (.int 10) (.int 9) μ QM' := ⟨10, 9, rfl, rfl, ⟨by decide, by decide, by decide⟩, h⟩
theorem pw_10_10 (h : QM' (.int 10000000000) μ) : rdPow (.int 10) (.int 10) μ QM' := ⟨10, 10, rfl, rfl, ⟨by decide, by decide, by decide⟩, h⟩
theorem pw_10_11 (h : QM' (.int 100000000000) μ) : rdPow (.int 10) (.int 11) μ QM' := ⟨10, 11, rfl, rfl, ⟨by decide, by decide, by decide⟩, h⟩
theorem pw_10_12 (h : QM' (.int 1000000000000) μ) : rdPow (.int 10) (.int 12) μ QM' := ⟨10, 12, rfl, rfl, ⟨by decide, by decide, by decide⟩, h⟩
theorem pw_10_13 (h : QM' (.int 10000000000000) μ) : rdPow (.int 10) (.int 13) μ QM' := ⟨10, 13, rfl, rfl, ⟨by decide, by decide, by decide⟩, h⟩
theorem pw_10_14 (h : QM' (.int 100000000000000) μ) : rdPow (.int 10) (.int 14) μ QM' := ⟨10, 14, rfl, rfl, ⟨by decide, by decide, by decide⟩, h⟩
theorem pw_10_15 (h : QM' (.int 1000000000000000) μ) : rdPow (.int 10) (.int 15) μ QM' := ⟨10, 15, rfl, rfl, ⟨by decide, by decide, by decide⟩, h⟩
theorem pw_10_16 (h : QM' (.int 10000000000000000) μ) : rdPow (.int 10) (.int 16) μ QM' := ⟨10, 16, rfl, rfl, ⟨by decide, by decide, by decide⟩, h⟩
theorem pw_10_17 (h : QM' (.int 100000000000000000) μ) : rdPow (.int 10) (.int 17) μ QM' := ⟨10, 17, rfl, rfl, ⟨by decide, by decide, by decide⟩, h⟩
theorem pw_10_18 (h : QM' (.int 1000000000000000000) μ) : rdPow (.int 10) (.int 18) μ QM' := ⟨10, 18, rfl, rfl, ⟨by decide, by decide, by decide⟩, h⟩
theorem pw_10_19 (h : QM' (.int 10000000000000000000) μ) : rdPow (.int 10) (.int 19) μ QM' := ⟨10, 19, rfl, rfl, ⟨by decide, by decide, by decide⟩, h⟩
theorem pw_10_20 (h : QM' (.int 100000000000000000000) μ) : rdPow (.int 10) (.int 20) μ QM' := ⟨10, 20, rfl, rfl, ⟨by decide, by decide, by decide⟩, h⟩
theorem pw_10_21 (h : QM' (.int 1000000000000000000000) μ) : rdPow (.int 10) (.int 21) μ QM' := ⟨10, 21, rfl, rfl, ⟨by decide, by decide, by decide⟩, h⟩
theorem pw_10_22 (h : QM' (.int 10000000000000000000000) μ) : rdPow (.int 10) (.int 22) μ QM' := ⟨10, 22, rfl, rfl, ⟨by decide, by decide, by decide⟩, h⟩
theorem pw_10_24 (h : QM' (.int 1000000000000000000000000) μ) : rdPow (.int 10) (.int 24) μ QM' := ⟨10, 24, rfl, rfl, ⟨by decide, by decide, by decide⟩, h⟩
theorem pw_10_25 (h : QM' (.int 10000000000000000000000000) μ) : rdPow (.int 10) (.int 25) μ QM' := ⟨10, 25, rfl, rfl, ⟨by decide, by decide, by decide⟩, h⟩
theorem pw_10_27 (h : QM' (.int 1000000000000000000000000000) μ) : rdPow (.int 10) (.int 27) μ QM' := ⟨10, 27, rfl, rfl, ⟨by decide, by decide, by decide⟩, h⟩
theorem pw_10_30 (h : QM' (.int 1000000000000000000000000000000) μ) : rdPow (.int 10) (.int 30) μ QM' := ⟨10, 30, rfl, rfl, ⟨by decide, by decide, by decide⟩, h⟩
/-! ### the end -/
theorem law_facts {P : Program} {w : World} {mg : Str → Option Value} {k : Nat} {x y : Str} {dsp : DSp} {f : Addr} (hfa : mg y = some (.ref f)) (h : ∀ base : Heap, Cal0 P w K mg base k y [x] dsp) (h0 : Heap) :
    ∃ fd : FuncData, (∀ (s : Shared) (v : Value), BindsTo s fd ⟨[v], []⟩ [(x, v)]) ∧ ∀ base : Heap, FnG P w K mg base CX0 k f fd [x] (up K dsp) := by
  obtain ⟨f1, fd, _, m1, b1, oc, od, osl, l1⟩ := (h h0).ex
  refine ⟨fd, fun s v => b1 s [v] rfl, fun base => ?_⟩
  obtain ⟨f2, fd2, G, m2, _, oc2, od2, osl2, l2⟩ := (h base).ex
  have e1 := hfa.symm.trans m1
  have e2 := hfa.symm.trans m2
  cases e1
  cases e2
  rw [l1] at l2
  cases l2
  exact G
theorem len1 {α : Type} {l : List α} (h : l.length = 1) : ∃ a, l = [a] := match l, h with | [a], _ => ⟨a, rfl⟩
theorem len2 {α : Type} {l : List α} (h : l.length = 2) : ∃ a b, l = [a, b] := match l, h with | [a, b], _ => ⟨a, b, rfl⟩
theorem len3 {α : Type} {l : List α} (h : l.length = 3) : ∃ a b c, l = [a, b, c] := match l, h with | [a, b, c], _ => ⟨a, b, c, rfl⟩
theorem len4 {α : Type} {l : List α} (h : l.length = 4) : ∃ a b c d, l = [a, b, c, d] := match l, h with | [a, b, c, d], _ => ⟨a, b, c, d, rfl⟩
theorem len5 {α : Type} {l : List α} (h : l.length = 5) : ∃ a b c d e, l = [a, b, c, d, e] := match l, h with | [a, b, c, d, e], _ => ⟨a, b, c, d, e, rfl⟩
theorem len6 {α : Type} {l : List α} (h : l.length = 6) : ∃ a b c d e f, l = [a, b, c, d, e, f] := match l, h with | [a, b, c, d, e, f], _ => ⟨a, b, c, d, e, f, rfl⟩
theorem len7 {α : Type} {l : List α} (h : l.length = 7) : ∃ a b c d e f g, l = [a, b, c, d, e, f, g] := match l, h with | [a, b, c, d, e, f, g], _ => ⟨a, b, c, d, e, f, g, rfl⟩
def noMetO : Option HO → Option HO
  | some (.met _ _) => none
  | some (.tbl _) => none
  | o => o
theorem noMetO_some {o : Option HO} {u : HO} (h : noMetO o = some u) : o = some u ∧ notMet u := by
  cases o with
  | none => cases h
  | some x => cases x <;> first | (cases h; done) | (cases h; exact ⟨rfl, trivial⟩)
theorem at_script {H : Hp} {a : Addr} {ns : List Int} {dsp : DSp} (hl : ns.length ≤ 63) (hT : ∀ p ∈ tabC K, H p.2 = some (.tbl #[])) (hS : SqL K H a (ns.map V.int)) (h : dsp [.scr (ns.map .int)] (fun _ => none) (fun d _ => d = .bl true) X0) : up K dsp [.ref a] H (fun v _ => v = .bl true) fun _ _ _ => False := by
  have tT : ∀ q ∈ tabList K, H q.1 = some (.tbl #[]) := fun q hq => by
    obtain ⟨p, hp, e⟩ := nm_at hq
    rw [← e]; exact hT p hp
  refine ⟨fun b => if b = a then noMetO (H a) else none, fun _ => none, [.scr (ns.map .int)], fun d _ => d = .bl true, X0, ⟨fun b u e => ?_, (fun _ _ e => nomatch e), ⟨fun q hq => ⟨?_, rfl, LamX.TabS.nil (tT q hq)⟩⟩⟩, ⟨.ref a, [], rfl, ⟨a, ns.map V.int, rfl, ?_, RepL.ints⟩, rfl⟩, h, fun S' μ' H' v d _ _ hv e => ?_, fun _ _ _ _ _ _ _ _ _ z => z⟩
  · have e : (if b = a then noMetO (H a) else none) = some u := e
    split at e
    · rename_i hb; subst hb; exact .inl (noMetO_some e)
    · cases e
  · by_cases e : q.1 = a
    · have e2 := tT q hq
      rw [e] at e2
      show (if q.1 = a then noMetO (H a) else none) = none
      rw [e2, if_pos e]; rfl
    · exact if_neg e
  · rcases hS with (h | ⟨o, h⟩) | h
    · exact .inl (.inl (by dsimp only; rw [if_pos rfl, h]; rfl))
    · exact .inl (.inr ⟨o, by dsimp only; rw [if_pos rfl, h]; rfl⟩)
    · exact .inr h
  · subst e; exact hv
class Step (P : Prop) (P2 : outParam Prop) : Prop where
  go : P2 → P
theorem Step.by {P P2 : Prop} [s : Step P P2] (h : P2) : P := s.go h
instance st_i_seq {t u : DS} : Step (dSeq t u ⟨nx, rt, bk, ct⟩ δ μ) (t ⟨u ⟨nx, rt, bk, ct⟩, rt, bk, ct⟩ δ μ) := ⟨fun h => i_seq h⟩
instance st_i_next : Step (dNext ⟨nx, rt, bk, ct⟩ δ μ) (nx δ μ) := ⟨fun h => i_next h⟩
instance st_i_break : Step (dBreak ⟨nx, rt, bk, ct⟩ δ μ) (bk δ μ) := ⟨fun h => i_break h⟩
instance st_i_cont : Step (dCont ⟨nx, rt, bk, ct⟩ δ μ) (ct δ μ) := ⟨fun h => i_cont h⟩
instance st_i_set {i : Nat} {de : DE} : Step (dSet i de ⟨nx, rt, bk, ct⟩ δ μ) (de δ μ fun d δ1 μ1 => nxSet nx i (.val d) δ1 μ1) := ⟨fun h => i_set h⟩
instance st_i_own {i : Nat} {df : DF} : Step (dOwn i df ⟨nx, rt, bk, ct⟩ δ μ) (df δ μ fun m δ1 μ1 => nxSet nx i (.own m) δ1 μ1) := ⟨fun h => i_own h⟩
instance st_i_asg {de : DE} {g : DG} : Step (dAsg de g ⟨nx, rt, bk, ct⟩ δ μ) (de δ μ fun d δ1 μ1 => g d δ1 μ1 nx) := ⟨fun h => i_asg h⟩
instance st_i_gname {i : Nat} {d : D} {R : Ss → Mem → Prop} : Step (gdName i d δ μ R) (nxSet R i (.val d) δ μ) := ⟨fun h => i_gname h⟩
instance st_i_gcons {t : DG} {u : DGs} {d : D} {r : List D} {R : Ss → Mem → Prop} : Step (gdCons t u (d :: r) δ μ R) (t d δ μ fun δ' μ' => u r δ' μ' R) := ⟨fun h => i_gcons h⟩
instance st_i_gnil {R : Ss → Mem → Prop} : Step (gdNil [] δ μ R) (R δ μ) := ⟨fun h => i_gnil h⟩
instance st_i_drop {de : DE} : Step (dDrop de ⟨nx, rt, bk, ct⟩ δ μ) (de δ μ fun _ δ1 μ1 => nx δ1 μ1) := ⟨fun h => i_drop h⟩
instance st_i_ret {de : DE} : Step (dRet de ⟨nx, rt, bk, ct⟩ δ μ) (de δ μ fun d _ μ1 => rt d μ1) := ⟨fun h => i_ret h⟩
instance st_i_retN : Step (dRetN ⟨nx, rt, bk, ct⟩ δ μ) (rt .non μ) := ⟨fun h => i_retN h⟩
instance st_i_ifs {c : DT} {t u : DS} : Step (dIfS c t u ⟨nx, rt, bk, ct⟩ δ μ) (c δ μ fun b δ1 μ1 => if b = true then t ⟨nx, rt, bk, ct⟩ δ1 μ1 else u ⟨nx, rt, bk, ct⟩ δ1 μ1) := ⟨fun h => i_ifs h⟩
instance st_i_C {d : D} : Step (dC d δ μ Q) (Q d δ μ) := ⟨fun h => i_C h⟩
instance st_i_op {dr : DR} {da db : DE} : Step (dOp dr da db δ μ Q) (da δ μ fun x δ1 μ1 => db δ1 μ1 fun y δ2 μ2 => dr x y μ2 fun d μ3 => Q d δ2 μ3) := ⟨fun h => i_op h⟩
instance st_i_chain {r r' : DR} {da db dc : DE} : Step (dChain r r' da db dc δ μ Q) (da δ μ fun x δ1 μ1 => db δ1 μ1 fun y δ2 μ2 => r x y μ2 fun z μ3 => ∃ k, z = .bl k ∧ (if k = true then dc δ2 μ3 fun w δ4 μ4 => r' y w μ4 fun d μ5 => Q d δ4 μ5 else Q (.bl false) δ2 μ3)) := ⟨fun h => i_chain h⟩
instance st_i_exbl {b : Bool} {P : Bool → Prop} : Step (∃ k, D.bl b = .bl k ∧ P k) (P b) := ⟨fun h => i_exbl h⟩
instance st_i_exint {b : Int} {P : Int → Prop} : Step (∃ k, D.int b = .int k ∧ P k) (P b) := ⟨fun h => i_exint h⟩
instance st_i_exstr {b : Str} {P : Str → Prop} : Step (∃ k, D.str b = .str k ∧ P k) (P b) := ⟨fun h => i_exstr h⟩
instance st_i_test {de : DE} {R : Bool → Ss → Mem → Prop} : Step (dTest de δ μ R) (de δ μ fun d δ1 μ1 => ∃ b, d = .bl b ∧ R b δ1 μ1) := ⟨fun h => i_test h⟩
instance st_i_and {t u : DT} {R : Bool → Ss → Mem → Prop} : Step (dAnd t u δ μ R) (t δ μ fun c δ1 μ1 => if c = true then u δ1 μ1 R else R false δ1 μ1) := ⟨fun h => i_and h⟩
instance st_i_or {t u : DT} {R : Bool → Ss → Mem → Prop} : Step (dOr t u δ μ R) (t δ μ fun c δ1 μ1 => if c = true then R true δ1 μ1 else u δ1 μ1 R) := ⟨fun h => i_or h⟩
instance st_i_not {t : DT} {R : Bool → Ss → Mem → Prop} : Step (dNot t δ μ R) (t δ μ fun c δ1 μ1 => R (!c) δ1 μ1) := ⟨fun h => i_not h⟩
instance st_i_andV {t u : DE} : Step (dAndV t u δ μ Q) (t δ μ fun x δ1 μ1 => ∃ c, x = .bl c ∧ if c = true then u δ1 μ1 Q else Q (.bl false) δ1 μ1) := ⟨fun h => i_andV h⟩
instance st_i_orV {t u : DE} : Step (dOrV t u δ μ Q) (t δ μ fun x δ1 μ1 => ∃ c, x = .bl c ∧ if c = true then Q (.bl true) δ1 μ1 else u δ1 μ1 Q) := ⟨fun h => i_orV h⟩
instance st_i_notV {t : DE} : Step (dNotV t δ μ Q) (t δ μ fun x δ1 μ1 => ∃ c, x = .bl c ∧ Q (.bl (!c)) δ1 μ1) := ⟨fun h => i_notV h⟩
instance st_i_ifE {t : DT} {da db : DE} : Step (dIf t da db δ μ Q) (t δ μ fun c δ1 μ1 => if c = true then da δ1 μ1 Q else db δ1 μ1 Q) := ⟨fun h => i_ifE h⟩
instance st_i_nil {R : List D → Ss → Mem → Prop} : Step (dNil δ μ R) (R [] δ μ) := ⟨fun h => i_nil h⟩
instance st_i_cons {da : DE} {dr : DA} {R : List D → Ss → Mem → Prop} : Step (dCons da dr δ μ R) (da δ μ fun x δ1 μ1 => dr δ1 μ1 fun xs δ2 μ2 => R (x :: xs) δ2 μ2) := ⟨fun h => i_cons h⟩
instance st_i_tup0 {da : DA} : Step (dTup da δ μ Q) (da δ μ fun xs δ1 μ1 => xs.length ≤ sizeLine ∧ Q (.tup xs) δ1 μ1) := ⟨fun h => i_tup0 h⟩
instance st_i_lst0 {da : DA} : Step (dLst da δ μ Q) (da δ μ fun xs δ1 μ1 => xs.length ≤ sizeLine ∧ Q (.lst xs) δ1 μ1) := ⟨fun h => i_lst0 h⟩
instance st_i_flst0 {da : DA} {R : MO → Ss → Mem → Prop} : Step (fLst da δ μ R) (da δ μ fun xs δ1 μ1 => xs.length ≤ sizeLine ∧ R (.lst xs) δ1 μ1) := ⟨fun h => i_flst0 h⟩
instance st_i_lstM0 {da : DA} : Step (dLstM da δ μ Q) (da δ μ fun xs δ1 μ1 => xs.length ≤ sizeLine ∧ ∀ p, μ1 p = none → Q (.ref p) δ1 (updM μ1 p (.lst xs))) := ⟨fun h => i_lstM0 h⟩
instance st_i_ice {df : DF} : Step (dIce df δ μ Q) (df δ μ fun m δ1 μ1 => Q (frozen m) δ1 μ1) := ⟨fun h => i_ice h⟩
instance st_i_CB {dc : DC} {da : DA} : Step (dCB dc da δ μ Q) (da δ μ fun ds δ1 μ1 => dc ds μ1 fun d μ2 => Q d δ1 μ2) := ⟨fun h => i_CB h⟩
instance st_i_callX {dsp : DSp} {dds : List D} {XD : DXW} {da : DA} : Step (dCallX dsp dds XD da δ μ Q) (da δ μ fun ds δ1 μ1 => dsp (ds ++ dds) μ1 (fun d μ2 => Q d δ1 μ2) (fun c fs μ2 => XD c fs δ1 μ2)) := ⟨fun h => i_callX h⟩
instance st_i_callX0 {dsp : DSp} {XD : DXW} {da : DA} : Step (dCallX dsp [] XD da δ μ Q) (da δ μ fun ds δ1 μ1 => dsp ds μ1 (fun d μ2 => Q d δ1 μ2) (fun c fs μ2 => XD c fs δ1 μ2)) := ⟨fun h => i_callX0 h⟩
instance st_i_methX {C m : Str} {dsp : DSp} {dds : List D} {XD : DXW} {do_ : DE} {da : DA} : Step (dMethX C m dsp dds XD do_ da δ μ Q) (do_ δ μ fun x δ1 μ1 => OnM C m x μ1 (da δ1 μ1 fun ds δ2 μ2 => dsp (x :: (ds ++ dds)) μ2 (fun d μ3 => Q d δ2 μ3) (fun c fs μ3 => XD c fs δ2 μ3))) := ⟨fun h => i_methX h⟩
instance st_i_methX0 {C m : Str} {dsp : DSp} {XD : DXW} {do_ : DE} {da : DA} : Step (dMethX C m dsp [] XD do_ da δ μ Q) (do_ δ μ fun x δ1 μ1 => OnM C m x μ1 (da δ1 μ1 fun ds δ2 μ2 => dsp (x :: ds) μ2 (fun d μ3 => Q d δ2 μ3) (fun c fs μ3 => XD c fs δ2 μ3))) := ⟨fun h => i_methX0 h⟩
instance st_i_fld {C f : Str} {da : DE} : Step (dFld C f da δ μ Q) (da δ μ fun x δ1 μ1 => OfF C f x μ1 fun d => Q d δ1 μ1) := ⟨fun h => i_fld h⟩
instance st_i_setFld {C f : Str} {da de : DE} : Step (dSetFld C f da de ⟨nx, rt, bk, ct⟩ δ μ) (de δ μ fun d δ1 μ1 => da δ1 μ1 fun x δ2 μ2 => ToF C f x d μ2 fun μ3 => nx δ2 μ3) := ⟨fun h => i_setFld h⟩
instance st_i_makeM {C : Str} {dsp : DSp} {dds : List D} {XD : DXW} {da : DA} : Step (dMakeM C dsp dds XD da δ μ Q) (da δ μ fun ds δ1 μ1 => ∀ p, μ1 p = none → dsp (.ref p :: (ds ++ dds)) (updM μ1 p (.obj C [])) (fun d μ2 => d = .non ∧ Q (.ref p) δ1 μ2) (fun c fs μ2 => DropX XD p c fs δ1 μ2)) := ⟨fun h => i_makeM h⟩
instance st_i_makeM0 {C : Str} {dsp : DSp} {XD : DXW} {da : DA} : Step (dMakeM C dsp [] XD da δ μ Q) (da δ μ fun ds δ1 μ1 => ∀ p, μ1 p = none → dsp (.ref p :: ds) (updM μ1 p (.obj C [])) (fun d μ2 => d = .non ∧ Q (.ref p) δ1 μ2) (fun c fs μ2 => DropX XD p c fs δ1 μ2)) := ⟨fun h => i_makeM0 h⟩
instance st_i_makeI {C : Str} {dsp : DSp} {dds : List D} {XD : DXW} {da : DA} : Step (dMakeI C dsp dds XD da δ μ Q) (da δ μ fun ds δ1 μ1 => ∀ p, μ1 p = none → dsp (.ref p :: (ds ++ dds)) (updM μ1 p (.obj C [])) (fun d μ2 => IceO C p d μ2 fun d μ3 => Q d δ1 μ3) (fun c fs μ2 => DropX XD p c fs δ1 μ2)) := ⟨fun h => i_makeI h⟩
instance st_i_makeI0 {C : Str} {dsp : DSp} {XD : DXW} {da : DA} : Step (dMakeI C dsp [] XD da δ μ Q) (da δ μ fun ds δ1 μ1 => ∀ p, μ1 p = none → dsp (.ref p :: ds) (updM μ1 p (.obj C [])) (fun d μ2 => IceO C p d μ2 fun d μ3 => Q d δ1 μ3) (fun c fs μ2 => DropX XD p c fs δ1 μ2)) := ⟨fun h => i_makeI0 h⟩
instance st_i_appM {da de : DE} : Step (dAppM da de ⟨nx, rt, bk, ct⟩ δ μ) (da δ μ fun x δ1 μ1 => isL x μ1 ∧ de δ1 μ1 fun d δ2 μ2 => AppR x d μ2 fun μ3 => nx δ2 μ3) := ⟨fun h => i_appM h⟩
instance st_i_raise {XD : DXW} {C : Str} : Step (dRaise XD C ⟨nx, rt, bk, ct⟩ δ μ) (XD C none δ μ) := ⟨fun h => i_raise h⟩
instance st_i_try {EX : List Str} {CN : Str} {i : Nat} {XD : DXW} {db : DXW → DS} {dsu : DS} : Step (dTry EX CN i XD db dsu ⟨nx, rt, bk, ct⟩ δ μ) (db (TryX EX CN i XD dsu nx rt bk ct) ⟨nx, rt, bk, ct⟩ δ μ) := ⟨fun h => i_try h⟩
instance st_i_try0 {EX : List Str} {CN : Str} {XD : DXW} {db : DXW → DS} {dsu : DS} : Step (dTry0 EX CN XD db dsu ⟨nx, rt, bk, ct⟩ δ μ) (db (TryX0 EX CN XD dsu nx rt bk ct) ⟨nx, rt, bk, ct⟩ δ μ) := ⟨fun h => i_try0 h⟩
instance st_i_isC {EX CL : List Str} {CN : Str} {de : DE} : Step (dIsC EX CL CN de δ μ Q) (de δ μ fun x δ1 μ1 => IsC EX CL CN x μ1 fun b => Q (.bl b) δ1 μ1) := ⟨fun h => i_isC h⟩
instance st_isC_non {EX CL : List Str} {CN : Str} {R : Bool → Prop} : Step (IsC EX CL CN .non μ R) (R false) := ⟨fun h => isC_non h⟩
instance st_isC_bl {EX CL : List Str} {CN : Str} {b : Bool} {R : Bool → Prop} : Step (IsC EX CL CN (.bl b) μ R) (R false) := ⟨fun h => isC_bl h⟩
instance st_isC_int {EX CL : List Str} {CN : Str} {b : Int} {R : Bool → Prop} : Step (IsC EX CL CN (.int b) μ R) (R false) := ⟨fun h => isC_int h⟩
instance st_isC_str {EX CL : List Str} {CN : Str} {b : Str} {R : Bool → Prop} : Step (IsC EX CL CN (.str b) μ R) (R false) := ⟨fun h => isC_str h⟩
instance st_isC_tup {EX CL : List Str} {CN : Str} {b : List D} {R : Bool → Prop} : Step (IsC EX CL CN (.tup b) μ R) (R false) := ⟨fun h => isC_tup h⟩
instance st_isC_lst {EX CL : List Str} {CN : Str} {b : List D} {R : Bool → Prop} : Step (IsC EX CL CN (.lst b) μ R) (R false) := ⟨fun h => isC_lst h⟩
instance st_i_sl {de : DE} {dl dh : DO} : Step (dSl de dl dh δ μ Q) (de δ μ fun x δ1 μ1 => dl δ1 μ1 fun lo δ2 μ2 => dh δ2 μ2 fun hi δ3 μ3 => rdSl x lo hi μ3 fun d μ4 => Q d δ3 μ4) := ⟨fun h => i_sl h⟩
instance st_i_noPart {R : Option Int → Ss → Mem → Prop} : Step (dNoPart δ μ R) (R none δ μ) := ⟨fun h => i_noPart h⟩
instance st_i_part {de : DE} {R : Option Int → Ss → Mem → Prop} : Step (dPart de δ μ R) (de δ μ fun x δ1 μ1 => ∃ i, x = .int i ∧ R (some i) δ1 μ1) := ⟨fun h => i_part h⟩
instance st_i_addI {i j : Int} : Step (rdAdd (.int i) (.int j) μ QM') (QM' (.int (i + j)) μ) := ⟨fun h => i_addI h⟩
instance st_i_sub {i j : Int} : Step (rdSub (.int i) (.int j) μ QM') (QM' (.int (i - j)) μ) := ⟨fun h => i_sub h⟩
instance st_i_lt {i j : Int} : Step (rdLt (.int i) (.int j) μ QM') (QM' (.bl (decide (i < j))) μ) := ⟨fun h => i_lt h⟩
instance st_i_le {i j : Int} : Step (rdLe (.int i) (.int j) μ QM') (QM' (.bl (decide (i ≤ j))) μ) := ⟨fun h => i_le h⟩
instance st_i_gt {i j : Int} : Step (rdGt (.int i) (.int j) μ QM') (QM' (.bl (decide (j < i))) μ) := ⟨fun h => i_gt h⟩
instance st_i_ge {i j : Int} : Step (rdGe (.int i) (.int j) μ QM') (QM' (.bl (decide (j ≤ i))) μ) := ⟨fun h => i_ge h⟩
instance st_i_inS {c : Nat} {z : Str} : Step (rdInS (.str ⟨#[c]⟩) (.str z) μ QM') (QM' (.bl (decide (c ∈ z.cps.toList))) μ) := ⟨fun h => i_inS h⟩
instance st_i_notInS {c : Nat} {z : Str} : Step (rdNotInS (.str ⟨#[c]⟩) (.str z) μ QM') (QM' (.bl (!decide (c ∈ z.cps.toList))) μ) := ⟨fun h => i_notInS h⟩
instance st_i_isN {d : D} : Step (rdIsN d .non μ QM') (QM' (.bl (isNon d)) μ) := ⟨fun h => i_isN h⟩
instance st_i_notN {d : D} : Step (rdNotN d .non μ QM') (QM' (.bl (!isNon d)) μ) := ⟨fun h => i_notN h⟩
instance st_i_eqI {i j : Int} : Step (rdEq (.int i) (.int j) μ QM') (QM' (.bl (decide (i = j))) μ) := ⟨fun h => i_eqI h⟩
instance st_i_neI {i j : Int} : Step (rdNe (.int i) (.int j) μ QM') (QM' (.bl (!decide (i = j))) μ) := ⟨fun h => i_neI h⟩
instance st_i_eqS {i j : Str} : Step (rdEq (.str i) (.str j) μ QM') (QM' (.bl (decide (i = j))) μ) := ⟨fun h => i_eqS h⟩
instance st_i_neS {i j : Str} : Step (rdNe (.str i) (.str j) μ QM') (QM' (.bl (!decide (i = j))) μ) := ⟨fun h => i_neS h⟩
instance st_i_eqB {i j : Bool} : Step (rdEq (.bl i) (.bl j) μ QM') (QM' (.bl (i == j)) μ) := ⟨fun h => i_eqB h⟩
instance st_i_neB {i j : Bool} : Step (rdNe (.bl i) (.bl j) μ QM') (QM' (.bl (!(i == j))) μ) := ⟨fun h => i_neB h⟩
instance st_i_slT {l : List D} {lo hi : Option Int} : Step (rdSl (.tup l) lo hi μ QM') (QM' (.tup (cutD l lo hi)) μ) := ⟨fun h => i_slT h⟩
instance st_i_slL {l : List D} {lo hi : Option Int} : Step (rdSl (.lst l) lo hi μ QM') (QM' (.lst (cutD l lo hi)) μ) := ⟨fun h => i_slL h⟩
instance st_i_slC {l : List D} {lo hi : Option Int} : Step (rdSl (.scr l) lo hi μ QM') (QM' (.lst (cutD l lo hi)) μ) := ⟨fun h => i_slC h⟩
instance st_i_lenL {l : List D} : Step (rdLen [.lst l] μ QM') (QM' (.int l.length) μ) := ⟨fun h => i_lenL h⟩
instance st_i_lenC {l : List D} : Step (rdLen [.scr l] μ QM') (QM' (.int l.length) μ) := ⟨fun h => i_lenC h⟩
instance st_i_lenT {l : List D} : Step (rdLen [.tup l] μ QM') (QM' (.int l.length) μ) := ⟨fun h => i_lenT h⟩
instance st_i_intI {i : Int} : Step (rdInt [.int i] μ QM') (QM' (.int i) μ) := ⟨fun h => i_intI h⟩
instance st_i_intB {b : Bool} : Step (rdInt [.bl b] μ QM') (QM' (.int (if b then 1 else 0)) μ) := ⟨fun h => i_intB h⟩
instance st_i_abs {i : Int} : Step (rdAbs [.int i] μ QM') (QM' (.int (if i < 0 then -i else i)) μ) := ⟨fun h => i_abs h⟩
instance st_i_dicM : Step (dDicM δ μ Q) (∀ p, μ p = none → Q (.ref p) δ (updM μ p (.dct []))) := ⟨fun h => i_dicM h⟩
instance st_i_getK {da db : DE} : Step (dGetK da db δ μ Q) (da δ μ fun x δ1 μ1 => db δ1 μ1 fun y δ2 μ2 => GetK x y μ2 fun d => Q d δ2 μ2) := ⟨fun h => i_getK h⟩
instance st_i_putK {da db de : DE} : Step (dPutK da db de ⟨nx, rt, bk, ct⟩ δ μ) (de δ μ fun d δ1 μ1 => da δ1 μ1 fun x δ2 μ2 => db δ2 μ2 fun y δ3 μ3 => PutK x y d μ3 fun μ4 => nx δ3 μ4) := ⟨fun h => i_putK h⟩
instance st_i_max2 {i j : Int} : Step (rdMax2 [.int i, .int j] μ QM') (QM' (.int (max i j)) μ) := ⟨fun h => i_max2 h⟩
instance st_i_min2 {i j : Int} : Step (rdMin2 [.int i, .int j] μ QM') (QM' (.int (min i j)) μ) := ⟨fun h => i_min2 h⟩
instance st_i_all {bs : List Bool} : Step (rdAll [.lst (bs.map .bl)] μ QM') (QM' (.bl (bs.all id)) μ) := ⟨fun h => i_all h⟩
instance st_i_listL {l : List D} : Step (rdList [.lst l] μ QM') (QM' (.lst l) μ) := ⟨fun h => i_listL h⟩
instance st_i_listC {l : List D} : Step (rdList [.scr l] μ QM') (QM' (.lst l) μ) := ⟨fun h => i_listC h⟩
instance st_i_listT {l : List D} : Step (rdList [.tup l] μ QM') (QM' (.lst l) μ) := ⟨fun h => i_listT h⟩
instance st_i_tupL {l : List D} : Step (rdTup [.lst l] μ QM') (QM' (.tup l) μ) := ⟨fun h => i_tupL h⟩
instance st_i_tupC {l : List D} : Step (rdTup [.scr l] μ QM') (QM' (.tup l) μ) := ⟨fun h => i_tupC h⟩
instance st_i_tupT {l : List D} : Step (rdTup [.tup l] μ QM') (QM' (.tup l) μ) := ⟨fun h => i_tupT h⟩
instance st_ite_tt {A B : Prop} : Step (if true = true then A else B) (A) := ⟨fun h => ite_tt h⟩
instance st_ite_ff {A B : Prop} : Step (if false = true then A else B) (B) := ⟨fun h => ite_ff h⟩
instance st_ite_nff {A B : Prop} : Step (if (!false) = true then A else B) (A) := ⟨fun h => ite_nff h⟩
instance st_ite_ntt {A B : Prop} : Step (if (!true) = true then A else B) (B) := ⟨fun h => ite_ntt h⟩
instance st_i_neg {da : DE} : Step (dNeg da δ μ Q) (da δ μ fun x δ1 μ1 => ∃ i, x = .int i ∧ Q (.int (-i)) δ1 μ1) := ⟨fun h => i_neg h⟩
instance st_i_inO {neg : Bool} {da : DE} {i : Nat} : Step (dInO neg da i δ μ Q) (da δ μ fun x δ1 μ1 => ∃ l, δ1[i]? = some (.own (.lst l)) ∧ flatD x = true ∧ l.all flatD = true ∧ Q (.bl (if neg then !inD x l else inD x l)) δ1 μ1) := ⟨fun h => i_inO h⟩
instance st_i_BMs {r : D → List D → Mem → QM → Prop} {do_ : DE} {da : DA} : Step (dBMs r do_ da δ μ Q) (do_ δ μ fun x δ1 μ1 => isStr x ∧ da δ1 μ1 fun xs δ2 μ2 => r x xs μ2 fun d μ3 => Q d δ2 μ3) := ⟨fun h => i_BMs h⟩
instance st_i_isStr {z : Str} {P : Prop} : Step (isStr (.str z) ∧ P) (P) := ⟨fun h => i_isStr h⟩
instance st_i_isBB {b : Bool} : Step (rdIsi [.bl b, .ty "bool"] μ QM') (QM' (.bl true) μ) := ⟨fun h => i_isBB h⟩
instance st_i_isBI {b : Bool} : Step (rdIsi [.bl b, .ty "int"] μ QM') (QM' (.bl true) μ) := ⟨fun h => i_isBI h⟩
instance st_i_isIB {b : Int} : Step (rdIsi [.int b, .ty "bool"] μ QM') (QM' (.bl false) μ) := ⟨fun h => i_isIB h⟩
instance st_i_isII {b : Int} : Step (rdIsi [.int b, .ty "int"] μ QM') (QM' (.bl true) μ) := ⟨fun h => i_isII h⟩
instance st_i_isSS {b : Str} : Step (rdIsi [.str b, .ty "str"] μ QM') (QM' (.bl true) μ) := ⟨fun h => i_isSS h⟩
instance st_i_isTT {b : List D} : Step (rdIsi [.tup b, .ty "tuple"] μ QM') (QM' (.bl true) μ) := ⟨fun h => i_isTT h⟩
instance st_i_isLL {b : List D} : Step (rdIsi [.lst b, .ty "list"] μ QM') (QM' (.bl true) μ) := ⟨fun h => i_isLL h⟩
instance st_i_setIxM {da db de : DE} : Step (dSetIxM da db de ⟨nx, rt, bk, ct⟩ δ μ) (de δ μ fun d δ1 μ1 => da δ1 μ1 fun x δ2 μ2 => db δ2 μ2 fun y δ3 μ3 => ∃ p l k j, x = .ref p ∧ μ3 p = some (.lst l) ∧ y = .int k ∧ ixN l.length k = some j ∧ nx δ3 (updM μ3 p (.lst (l.set j d)))) := ⟨fun h => i_setIxM h⟩
instance st_i_par {i j : Nat} {da : DA} : Step (dPar i j da ⟨nx, rt, bk, ct⟩ δ μ) (da δ μ fun ds δ1 μ1 => ParK nx i j ds δ1 μ1) := ⟨fun h => i_par h⟩
instance st_i_parK {i j : Nat} {x y : D} : Step (ParK nx i j [x, y] δ μ) (nxSet (nxSet nx j (.val y)) i (.val x) δ μ) := ⟨fun h => i_parK h⟩
instance st_i_par3 {i j k : Nat} {da : DA} : Step (dPar3 i j k da ⟨nx, rt, bk, ct⟩ δ μ) (da δ μ fun ds δ1 μ1 => ParK3 nx i j k ds δ1 μ1) := ⟨fun h => i_par3 h⟩
instance st_i_parK3 {i j k : Nat} {x y z : D} : Step (ParK3 nx i j k [x, y, z] δ μ) (nxSet (nxSet (nxSet nx k (.val z)) j (.val y)) i (.val x) δ μ) := ⟨fun h => i_parK3 h⟩
instance st_i_parF {i j : Nat} {df : DF} {db : DE} : Step (dParF i j df db ⟨nx, rt, bk, ct⟩ δ μ) (df δ μ fun m δ1 μ1 => db δ1 μ1 fun y δ2 μ2 => nxSet (nxSet nx j (.val y)) i (.own m) δ2 μ2) := ⟨fun h => i_parF h⟩
instance st_i_for {di : DI} {dg : DG} {db : DS} : Step (dFor di dg db ⟨nx, rt, bk, ct⟩ δ μ) (di δ μ fun ds G δ1 μ1 => ForG ds G dg db nx rt δ1 μ1) := ⟨fun h => i_for h⟩
instance st_i_icell {de : DE} {R : List D → (Mem → Prop) → Ss → Mem → Prop} : Step (diCell de δ μ R) (de δ μ fun d δ1 μ1 => CellW d μ1 fun l G => R l G δ1 μ1) := ⟨fun h => i_icell h⟩
instance st_i_iseq {de : DE} {R : List D → (Mem → Prop) → Ss → Mem → Prop} : Step (diSeq de δ μ R) (de δ μ fun d δ1 μ1 => ∃ l, (d = .lst l ∨ d = .scr l) ∧ R l (fun _ => True) δ1 μ1) := ⟨fun h => i_iseq h⟩
instance st_i_itup {de : DE} {R : List D → (Mem → Prop) → Ss → Mem → Prop} : Step (diTup de δ μ R) (de δ μ fun d δ1 μ1 => ∃ l, d = .tup l ∧ R l (fun _ => True) δ1 μ1) := ⟨fun h => i_itup h⟩
instance st_i_exlst {a : List D} {P : List D → Prop} : Step (∃ l, (D.lst a = .lst l ∨ D.lst a = .scr l) ∧ P l) (P a) := ⟨fun h => i_exlst h⟩
instance st_i_exscr {a : List D} {P : List D → Prop} : Step (∃ l, (D.scr a = .lst l ∨ D.scr a = .scr l) ∧ P l) (P a) := ⟨fun h => i_exscr h⟩
instance st_i_extup {a : List D} {P : List D → Prop} : Step (∃ l, D.tup a = .tup l ∧ P l) (P a) := ⟨fun h => i_extup h⟩
instance st_i_istr {de : DE} {R : List D → (Mem → Prop) → Ss → Mem → Prop} : Step (diStr de δ μ R) (de δ μ fun d δ1 μ1 => ∃ z, d = .str z ∧ R (signs z) (fun _ => True) δ1 μ1) := ⟨fun h => i_istr h⟩
instance st_i_rng1 {da : DA} {R : List D → (Mem → Prop) → Ss → Mem → Prop} : Step (diRng1 da δ μ R) (da δ μ fun xs δ1 μ1 => ∃ j : Int, xs = [.int j] ∧ -(2 ^ 62) ≤ j ∧ j < 2 ^ 62 ∧ R (rangeD 0 j.toNat) (fun _ => True) δ1 μ1) := ⟨fun h => i_rng1 h⟩
instance st_i_rng2 {da : DA} {R : List D → (Mem → Prop) → Ss → Mem → Prop} : Step (diRng2 da δ μ R) (da δ μ fun xs δ1 μ1 => ∃ i j : Int, xs = [.int i, .int j] ∧ (-(2 ^ 62) ≤ i ∧ i < 2 ^ 62 ∧ -(2 ^ 62) ≤ j ∧ j < 2 ^ 62) ∧ R (rangeD i (j - i).toNat) (fun _ => True) δ1 μ1) := ⟨fun h => i_rng2 h⟩
instance st_i_lc {di : DI} {dg : DG} {dt : DT} {de : DE} {vs : List Nat} {R : MO → Ss → Mem → Prop} : Step (fLc di dg dt de vs δ μ R) (di δ μ fun ds G δ1 μ1 => LcG ds G dg dt de vs (fun acc δ μ => R (.lst acc) δ μ) δ1 μ1) := ⟨fun h => i_lc h⟩
instance st_i_iceLc {di : DI} {dg : DG} {dt : DT} {de : DE} {vs : List Nat} : Step (dIce (fLc di dg dt de vs) δ μ Q) (di δ μ fun ds G δ1 μ1 => LcG ds G dg dt de vs (fun acc δ μ => Q (.lst acc) δ μ) δ1 μ1) := ⟨fun h => i_iceLc h⟩
instance st_i_yes {R : Bool → Ss → Mem → Prop} : Step (dYes δ μ R) (R true δ μ) := ⟨fun h => i_yes h⟩
instance st_i_rfl {a : Ss} {P : Prop} : Step (a = a ∧ P) (P) := ⟨fun h => i_rfl h⟩
instance st_v_0 {d : D} {l : Ss} : Step (dVar 0 (.val d :: l) μ Q) (Q d (.val d :: l) μ) := ⟨fun h => v_0 h⟩
instance st_v_1 {s0 : SL} {d : D} {l : Ss} : Step (dVar 1 (s0 :: .val d :: l) μ Q) (Q d (s0 :: .val d :: l) μ) := ⟨fun h => v_1 h⟩
instance st_v_2 {s0 s1 : SL} {d : D} {l : Ss} : Step (dVar 2 (s0 :: s1 :: .val d :: l) μ Q) (Q d (s0 :: s1 :: .val d :: l) μ) := ⟨fun h => v_2 h⟩
instance st_v_3 {s0 s1 s2 : SL} {d : D} {l : Ss} : Step (dVar 3 (s0 :: s1 :: s2 :: .val d :: l) μ Q) (Q d (s0 :: s1 :: s2 :: .val d :: l) μ) := ⟨fun h => v_3 h⟩
instance st_v_4 {s0 s1 s2 s3 : SL} {d : D} {l : Ss} : Step (dVar 4 (s0 :: s1 :: s2 :: s3 :: .val d :: l) μ Q) (Q d (s0 :: s1 :: s2 :: s3 :: .val d :: l) μ) := ⟨fun h => v_4 h⟩
instance st_v_5 {s0 s1 s2 s3 s4 : SL} {d : D} {l : Ss} : Step (dVar 5 (s0 :: s1 :: s2 :: s3 :: s4 :: .val d :: l) μ Q) (Q d (s0 :: s1 :: s2 :: s3 :: s4 :: .val d :: l) μ) := ⟨fun h => v_5 h⟩
instance st_v_6 {s0 s1 s2 s3 s4 s5 : SL} {d : D} {l : Ss} : Step (dVar 6 (s0 :: s1 :: s2 :: s3 :: s4 :: s5 :: .val d :: l) μ Q) (Q d (s0 :: s1 :: s2 :: s3 :: s4 :: s5 :: .val d :: l) μ) := ⟨fun h => v_6 h⟩
instance st_v_7 {s0 s1 s2 s3 s4 s5 s6 : SL} {d : D} {l : Ss} : Step (dVar 7 (s0 :: s1 :: s2 :: s3 :: s4 :: s5 :: s6 :: .val d :: l) μ Q) (Q d (s0 :: s1 :: s2 :: s3 :: s4 :: s5 :: s6 :: .val d :: l) μ) := ⟨fun h => v_7 h⟩
instance st_v_8 {s0 s1 s2 s3 s4 s5 s6 s7 : SL} {d : D} {l : Ss} : Step (dVar 8 (s0 :: s1 :: s2 :: s3 :: s4 :: s5 :: s6 :: s7 :: .val d :: l) μ Q) (Q d (s0 :: s1 :: s2 :: s3 :: s4 :: s5 :: s6 :: s7 :: .val d :: l) μ) := ⟨fun h => v_8 h⟩
instance st_v_9 {s0 s1 s2 s3 s4 s5 s6 s7 s8 : SL} {d : D} {l : Ss} : Step (dVar 9 (s0 :: s1 :: s2 :: s3 :: s4 :: s5 :: s6 :: s7 :: s8 :: .val d :: l) μ Q) (Q d (s0 :: s1 :: s2 :: s3 :: s4 :: s5 :: s6 :: s7 :: s8 :: .val d :: l) μ) := ⟨fun h => v_9 h⟩
instance st_v_10 {s0 s1 s2 s3 s4 s5 s6 s7 s8 s9 : SL} {d : D} {l : Ss} : Step (dVar 10 (s0 :: s1 :: s2 :: s3 :: s4 :: s5 :: s6 :: s7 :: s8 :: s9 :: .val d :: l) μ Q) (Q d (s0 :: s1 :: s2 :: s3 :: s4 :: s5 :: s6 :: s7 :: s8 :: s9 :: .val d :: l) μ) := ⟨fun h => v_10 h⟩
instance st_v_11 {s0 s1 s2 s3 s4 s5 s6 s7 s8 s9 s10 : SL} {d : D} {l : Ss} : Step (dVar 11 (s0 :: s1 :: s2 :: s3 :: s4 :: s5 :: s6 :: s7 :: s8 :: s9 :: s10 :: .val d :: l) μ Q) (Q d (s0 :: s1 :: s2 :: s3 :: s4 :: s5 :: s6 :: s7 :: s8 :: s9 :: s10 :: .val d :: l) μ) := ⟨fun h => v_11 h⟩
instance st_vf_0 {a : List D} {l : Ss} : Step (dVarF 0 (.own (.lst a) :: l) μ Q) (Q (.lst a) (.val (.lst a) :: l) μ) := ⟨fun h => vf_0 h⟩
instance st_vf_1 {s0 : SL} {a : List D} {l : Ss} : Step (dVarF 1 (s0 :: .own (.lst a) :: l) μ Q) (Q (.lst a) (s0 :: .val (.lst a) :: l) μ) := ⟨fun h => vf_1 h⟩
instance st_vf_2 {s0 s1 : SL} {a : List D} {l : Ss} : Step (dVarF 2 (s0 :: s1 :: .own (.lst a) :: l) μ Q) (Q (.lst a) (s0 :: s1 :: .val (.lst a) :: l) μ) := ⟨fun h => vf_2 h⟩
instance st_vf_3 {s0 s1 s2 : SL} {a : List D} {l : Ss} : Step (dVarF 3 (s0 :: s1 :: s2 :: .own (.lst a) :: l) μ Q) (Q (.lst a) (s0 :: s1 :: s2 :: .val (.lst a) :: l) μ) := ⟨fun h => vf_3 h⟩
instance st_vf_4 {s0 s1 s2 s3 : SL} {a : List D} {l : Ss} : Step (dVarF 4 (s0 :: s1 :: s2 :: s3 :: .own (.lst a) :: l) μ Q) (Q (.lst a) (s0 :: s1 :: s2 :: s3 :: .val (.lst a) :: l) μ) := ⟨fun h => vf_4 h⟩
instance st_vf_5 {s0 s1 s2 s3 s4 : SL} {a : List D} {l : Ss} : Step (dVarF 5 (s0 :: s1 :: s2 :: s3 :: s4 :: .own (.lst a) :: l) μ Q) (Q (.lst a) (s0 :: s1 :: s2 :: s3 :: s4 :: .val (.lst a) :: l) μ) := ⟨fun h => vf_5 h⟩
instance st_vf_6 {s0 s1 s2 s3 s4 s5 : SL} {a : List D} {l : Ss} : Step (dVarF 6 (s0 :: s1 :: s2 :: s3 :: s4 :: s5 :: .own (.lst a) :: l) μ Q) (Q (.lst a) (s0 :: s1 :: s2 :: s3 :: s4 :: s5 :: .val (.lst a) :: l) μ) := ⟨fun h => vf_6 h⟩
instance st_vf_7 {s0 s1 s2 s3 s4 s5 s6 : SL} {a : List D} {l : Ss} : Step (dVarF 7 (s0 :: s1 :: s2 :: s3 :: s4 :: s5 :: s6 :: .own (.lst a) :: l) μ Q) (Q (.lst a) (s0 :: s1 :: s2 :: s3 :: s4 :: s5 :: s6 :: .val (.lst a) :: l) μ) := ⟨fun h => vf_7 h⟩
instance st_vf_8 {s0 s1 s2 s3 s4 s5 s6 s7 : SL} {a : List D} {l : Ss} : Step (dVarF 8 (s0 :: s1 :: s2 :: s3 :: s4 :: s5 :: s6 :: s7 :: .own (.lst a) :: l) μ Q) (Q (.lst a) (s0 :: s1 :: s2 :: s3 :: s4 :: s5 :: s6 :: s7 :: .val (.lst a) :: l) μ) := ⟨fun h => vf_8 h⟩
instance st_vf_9 {s0 s1 s2 s3 s4 s5 s6 s7 s8 : SL} {a : List D} {l : Ss} : Step (dVarF 9 (s0 :: s1 :: s2 :: s3 :: s4 :: s5 :: s6 :: s7 :: s8 :: .own (.lst a) :: l) μ Q) (Q (.lst a) (s0 :: s1 :: s2 :: s3 :: s4 :: s5 :: s6 :: s7 :: s8 :: .val (.lst a) :: l) μ) := ⟨fun h => vf_9 h⟩
instance st_vf_10 {s0 s1 s2 s3 s4 s5 s6 s7 s8 s9 : SL} {a : List D} {l : Ss} : Step (dVarF 10 (s0 :: s1 :: s2 :: s3 :: s4 :: s5 :: s6 :: s7 :: s8 :: s9 :: .own (.lst a) :: l) μ Q) (Q (.lst a) (s0 :: s1 :: s2 :: s3 :: s4 :: s5 :: s6 :: s7 :: s8 :: s9 :: .val (.lst a) :: l) μ) := ⟨fun h => vf_10 h⟩
instance st_vf_11 {s0 s1 s2 s3 s4 s5 s6 s7 s8 s9 s10 : SL} {a : List D} {l : Ss} : Step (dVarF 11 (s0 :: s1 :: s2 :: s3 :: s4 :: s5 :: s6 :: s7 :: s8 :: s9 :: s10 :: .own (.lst a) :: l) μ Q) (Q (.lst a) (s0 :: s1 :: s2 :: s3 :: s4 :: s5 :: s6 :: s7 :: s8 :: s9 :: s10 :: .val (.lst a) :: l) μ) := ⟨fun h => vf_11 h⟩
instance st_vd_0 {a : List (Key × D)} {l : Ss} : Step (dVarF 0 (.own (.dct a) :: l) μ Q) (Q (.dct a) (.val (.dct a) :: l) μ) := ⟨fun h => vd_0 h⟩
instance st_vd_1 {s0 : SL} {a : List (Key × D)} {l : Ss} : Step (dVarF 1 (s0 :: .own (.dct a) :: l) μ Q) (Q (.dct a) (s0 :: .val (.dct a) :: l) μ) := ⟨fun h => vd_1 h⟩
instance st_vd_2 {s0 s1 : SL} {a : List (Key × D)} {l : Ss} : Step (dVarF 2 (s0 :: s1 :: .own (.dct a) :: l) μ Q) (Q (.dct a) (s0 :: s1 :: .val (.dct a) :: l) μ) := ⟨fun h => vd_2 h⟩
instance st_vd_3 {s0 s1 s2 : SL} {a : List (Key × D)} {l : Ss} : Step (dVarF 3 (s0 :: s1 :: s2 :: .own (.dct a) :: l) μ Q) (Q (.dct a) (s0 :: s1 :: s2 :: .val (.dct a) :: l) μ) := ⟨fun h => vd_3 h⟩
instance st_vd_4 {s0 s1 s2 s3 : SL} {a : List (Key × D)} {l : Ss} : Step (dVarF 4 (s0 :: s1 :: s2 :: s3 :: .own (.dct a) :: l) μ Q) (Q (.dct a) (s0 :: s1 :: s2 :: s3 :: .val (.dct a) :: l) μ) := ⟨fun h => vd_4 h⟩
instance st_vd_5 {s0 s1 s2 s3 s4 : SL} {a : List (Key × D)} {l : Ss} : Step (dVarF 5 (s0 :: s1 :: s2 :: s3 :: s4 :: .own (.dct a) :: l) μ Q) (Q (.dct a) (s0 :: s1 :: s2 :: s3 :: s4 :: .val (.dct a) :: l) μ) := ⟨fun h => vd_5 h⟩
instance st_vd_6 {s0 s1 s2 s3 s4 s5 : SL} {a : List (Key × D)} {l : Ss} : Step (dVarF 6 (s0 :: s1 :: s2 :: s3 :: s4 :: s5 :: .own (.dct a) :: l) μ Q) (Q (.dct a) (s0 :: s1 :: s2 :: s3 :: s4 :: s5 :: .val (.dct a) :: l) μ) := ⟨fun h => vd_6 h⟩
instance st_vd_7 {s0 s1 s2 s3 s4 s5 s6 : SL} {a : List (Key × D)} {l : Ss} : Step (dVarF 7 (s0 :: s1 :: s2 :: s3 :: s4 :: s5 :: s6 :: .own (.dct a) :: l) μ Q) (Q (.dct a) (s0 :: s1 :: s2 :: s3 :: s4 :: s5 :: s6 :: .val (.dct a) :: l) μ) := ⟨fun h => vd_7 h⟩
instance st_vd_8 {s0 s1 s2 s3 s4 s5 s6 s7 : SL} {a : List (Key × D)} {l : Ss} : Step (dVarF 8 (s0 :: s1 :: s2 :: s3 :: s4 :: s5 :: s6 :: s7 :: .own (.dct a) :: l) μ Q) (Q (.dct a) (s0 :: s1 :: s2 :: s3 :: s4 :: s5 :: s6 :: s7 :: .val (.dct a) :: l) μ) := ⟨fun h => vd_8 h⟩
instance st_vd_9 {s0 s1 s2 s3 s4 s5 s6 s7 s8 : SL} {a : List (Key × D)} {l : Ss} : Step (dVarF 9 (s0 :: s1 :: s2 :: s3 :: s4 :: s5 :: s6 :: s7 :: s8 :: .own (.dct a) :: l) μ Q) (Q (.dct a) (s0 :: s1 :: s2 :: s3 :: s4 :: s5 :: s6 :: s7 :: s8 :: .val (.dct a) :: l) μ) := ⟨fun h => vd_9 h⟩
instance st_vd_10 {s0 s1 s2 s3 s4 s5 s6 s7 s8 s9 : SL} {a : List (Key × D)} {l : Ss} : Step (dVarF 10 (s0 :: s1 :: s2 :: s3 :: s4 :: s5 :: s6 :: s7 :: s8 :: s9 :: .own (.dct a) :: l) μ Q) (Q (.dct a) (s0 :: s1 :: s2 :: s3 :: s4 :: s5 :: s6 :: s7 :: s8 :: s9 :: .val (.dct a) :: l) μ) := ⟨fun h => vd_10 h⟩
instance st_vd_11 {s0 s1 s2 s3 s4 s5 s6 s7 s8 s9 s10 : SL} {a : List (Key × D)} {l : Ss} : Step (dVarF 11 (s0 :: s1 :: s2 :: s3 :: s4 :: s5 :: s6 :: s7 :: s8 :: s9 :: s10 :: .own (.dct a) :: l) μ Q) (Q (.dct a) (s0 :: s1 :: s2 :: s3 :: s4 :: s5 :: s6 :: s7 :: s8 :: s9 :: s10 :: .val (.dct a) :: l) μ) := ⟨fun h => vd_11 h⟩
instance st_n_0 {P : Ss → Mem → Prop} {s x : SL} {l : Ss} : Step (nxSet P 0 x (s :: l) μ) (P (x :: l) μ) := ⟨fun h => n_0 h⟩
instance st_n_1 {P : Ss → Mem → Prop} {s0 : SL} {s x : SL} {l : Ss} : Step (nxSet P 1 x (s0 :: s :: l) μ) (P (s0 :: x :: l) μ) := ⟨fun h => n_1 h⟩
instance st_n_2 {P : Ss → Mem → Prop} {s0 s1 : SL} {s x : SL} {l : Ss} : Step (nxSet P 2 x (s0 :: s1 :: s :: l) μ) (P (s0 :: s1 :: x :: l) μ) := ⟨fun h => n_2 h⟩
instance st_n_3 {P : Ss → Mem → Prop} {s0 s1 s2 : SL} {s x : SL} {l : Ss} : Step (nxSet P 3 x (s0 :: s1 :: s2 :: s :: l) μ) (P (s0 :: s1 :: s2 :: x :: l) μ) := ⟨fun h => n_3 h⟩
instance st_n_4 {P : Ss → Mem → Prop} {s0 s1 s2 s3 : SL} {s x : SL} {l : Ss} : Step (nxSet P 4 x (s0 :: s1 :: s2 :: s3 :: s :: l) μ) (P (s0 :: s1 :: s2 :: s3 :: x :: l) μ) := ⟨fun h => n_4 h⟩
instance st_n_5 {P : Ss → Mem → Prop} {s0 s1 s2 s3 s4 : SL} {s x : SL} {l : Ss} : Step (nxSet P 5 x (s0 :: s1 :: s2 :: s3 :: s4 :: s :: l) μ) (P (s0 :: s1 :: s2 :: s3 :: s4 :: x :: l) μ) := ⟨fun h => n_5 h⟩
instance st_n_6 {P : Ss → Mem → Prop} {s0 s1 s2 s3 s4 s5 : SL} {s x : SL} {l : Ss} : Step (nxSet P 6 x (s0 :: s1 :: s2 :: s3 :: s4 :: s5 :: s :: l) μ) (P (s0 :: s1 :: s2 :: s3 :: s4 :: s5 :: x :: l) μ) := ⟨fun h => n_6 h⟩
instance st_n_7 {P : Ss → Mem → Prop} {s0 s1 s2 s3 s4 s5 s6 : SL} {s x : SL} {l : Ss} : Step (nxSet P 7 x (s0 :: s1 :: s2 :: s3 :: s4 :: s5 :: s6 :: s :: l) μ) (P (s0 :: s1 :: s2 :: s3 :: s4 :: s5 :: s6 :: x :: l) μ) := ⟨fun h => n_7 h⟩
instance st_n_8 {P : Ss → Mem → Prop} {s0 s1 s2 s3 s4 s5 s6 s7 : SL} {s x : SL} {l : Ss} : Step (nxSet P 8 x (s0 :: s1 :: s2 :: s3 :: s4 :: s5 :: s6 :: s7 :: s :: l) μ) (P (s0 :: s1 :: s2 :: s3 :: s4 :: s5 :: s6 :: s7 :: x :: l) μ) := ⟨fun h => n_8 h⟩
instance st_n_9 {P : Ss → Mem → Prop} {s0 s1 s2 s3 s4 s5 s6 s7 s8 : SL} {s x : SL} {l : Ss} : Step (nxSet P 9 x (s0 :: s1 :: s2 :: s3 :: s4 :: s5 :: s6 :: s7 :: s8 :: s :: l) μ) (P (s0 :: s1 :: s2 :: s3 :: s4 :: s5 :: s6 :: s7 :: s8 :: x :: l) μ) := ⟨fun h => n_9 h⟩
instance st_n_10 {P : Ss → Mem → Prop} {s0 s1 s2 s3 s4 s5 s6 s7 s8 s9 : SL} {s x : SL} {l : Ss} : Step (nxSet P 10 x (s0 :: s1 :: s2 :: s3 :: s4 :: s5 :: s6 :: s7 :: s8 :: s9 :: s :: l) μ) (P (s0 :: s1 :: s2 :: s3 :: s4 :: s5 :: s6 :: s7 :: s8 :: s9 :: x :: l) μ) := ⟨fun h => n_10 h⟩
instance st_n_11 {P : Ss → Mem → Prop} {s0 s1 s2 s3 s4 s5 s6 s7 s8 s9 s10 : SL} {s x : SL} {l : Ss} : Step (nxSet P 11 x (s0 :: s1 :: s2 :: s3 :: s4 :: s5 :: s6 :: s7 :: s8 :: s9 :: s10 :: s :: l) μ) (P (s0 :: s1 :: s2 :: s3 :: s4 :: s5 :: s6 :: s7 :: s8 :: s9 :: s10 :: x :: l) μ) := ⟨fun h => n_11 h⟩
instance st_app_0 {de : DE} {a : List D} {l : Ss} : Step (dApp 0 de ⟨nx, rt, bk, ct⟩ (.own (.lst a) :: l) μ) (de (.own (.lst a) :: l) μ fun d δ1 μ1 => apNx nx 0 d δ1 μ1) := ⟨fun h => app_0 h⟩
instance st_app_1 {de : DE} {s0 : SL} {a : List D} {l : Ss} : Step (dApp 1 de ⟨nx, rt, bk, ct⟩ (s0 :: .own (.lst a) :: l) μ) (de (s0 :: .own (.lst a) :: l) μ fun d δ1 μ1 => apNx nx 1 d δ1 μ1) := ⟨fun h => app_1 h⟩
instance st_app_2 {de : DE} {s0 s1 : SL} {a : List D} {l : Ss} : Step (dApp 2 de ⟨nx, rt, bk, ct⟩ (s0 :: s1 :: .own (.lst a) :: l) μ) (de (s0 :: s1 :: .own (.lst a) :: l) μ fun d δ1 μ1 => apNx nx 2 d δ1 μ1) := ⟨fun h => app_2 h⟩
instance st_app_3 {de : DE} {s0 s1 s2 : SL} {a : List D} {l : Ss} : Step (dApp 3 de ⟨nx, rt, bk, ct⟩ (s0 :: s1 :: s2 :: .own (.lst a) :: l) μ) (de (s0 :: s1 :: s2 :: .own (.lst a) :: l) μ fun d δ1 μ1 => apNx nx 3 d δ1 μ1) := ⟨fun h => app_3 h⟩
instance st_app_4 {de : DE} {s0 s1 s2 s3 : SL} {a : List D} {l : Ss} : Step (dApp 4 de ⟨nx, rt, bk, ct⟩ (s0 :: s1 :: s2 :: s3 :: .own (.lst a) :: l) μ) (de (s0 :: s1 :: s2 :: s3 :: .own (.lst a) :: l) μ fun d δ1 μ1 => apNx nx 4 d δ1 μ1) := ⟨fun h => app_4 h⟩
instance st_app_5 {de : DE} {s0 s1 s2 s3 s4 : SL} {a : List D} {l : Ss} : Step (dApp 5 de ⟨nx, rt, bk, ct⟩ (s0 :: s1 :: s2 :: s3 :: s4 :: .own (.lst a) :: l) μ) (de (s0 :: s1 :: s2 :: s3 :: s4 :: .own (.lst a) :: l) μ fun d δ1 μ1 => apNx nx 5 d δ1 μ1) := ⟨fun h => app_5 h⟩
instance st_app_6 {de : DE} {s0 s1 s2 s3 s4 s5 : SL} {a : List D} {l : Ss} : Step (dApp 6 de ⟨nx, rt, bk, ct⟩ (s0 :: s1 :: s2 :: s3 :: s4 :: s5 :: .own (.lst a) :: l) μ) (de (s0 :: s1 :: s2 :: s3 :: s4 :: s5 :: .own (.lst a) :: l) μ fun d δ1 μ1 => apNx nx 6 d δ1 μ1) := ⟨fun h => app_6 h⟩
instance st_app_7 {de : DE} {s0 s1 s2 s3 s4 s5 s6 : SL} {a : List D} {l : Ss} : Step (dApp 7 de ⟨nx, rt, bk, ct⟩ (s0 :: s1 :: s2 :: s3 :: s4 :: s5 :: s6 :: .own (.lst a) :: l) μ) (de (s0 :: s1 :: s2 :: s3 :: s4 :: s5 :: s6 :: .own (.lst a) :: l) μ fun d δ1 μ1 => apNx nx 7 d δ1 μ1) := ⟨fun h => app_7 h⟩
instance st_app_8 {de : DE} {s0 s1 s2 s3 s4 s5 s6 s7 : SL} {a : List D} {l : Ss} : Step (dApp 8 de ⟨nx, rt, bk, ct⟩ (s0 :: s1 :: s2 :: s3 :: s4 :: s5 :: s6 :: s7 :: .own (.lst a) :: l) μ) (de (s0 :: s1 :: s2 :: s3 :: s4 :: s5 :: s6 :: s7 :: .own (.lst a) :: l) μ fun d δ1 μ1 => apNx nx 8 d δ1 μ1) := ⟨fun h => app_8 h⟩
instance st_app_9 {de : DE} {s0 s1 s2 s3 s4 s5 s6 s7 s8 : SL} {a : List D} {l : Ss} : Step (dApp 9 de ⟨nx, rt, bk, ct⟩ (s0 :: s1 :: s2 :: s3 :: s4 :: s5 :: s6 :: s7 :: s8 :: .own (.lst a) :: l) μ) (de (s0 :: s1 :: s2 :: s3 :: s4 :: s5 :: s6 :: s7 :: s8 :: .own (.lst a) :: l) μ fun d δ1 μ1 => apNx nx 9 d δ1 μ1) := ⟨fun h => app_9 h⟩
instance st_app_10 {de : DE} {s0 s1 s2 s3 s4 s5 s6 s7 s8 s9 : SL} {a : List D} {l : Ss} : Step (dApp 10 de ⟨nx, rt, bk, ct⟩ (s0 :: s1 :: s2 :: s3 :: s4 :: s5 :: s6 :: s7 :: s8 :: s9 :: .own (.lst a) :: l) μ) (de (s0 :: s1 :: s2 :: s3 :: s4 :: s5 :: s6 :: s7 :: s8 :: s9 :: .own (.lst a) :: l) μ fun d δ1 μ1 => apNx nx 10 d δ1 μ1) := ⟨fun h => app_10 h⟩
instance st_app_11 {de : DE} {s0 s1 s2 s3 s4 s5 s6 s7 s8 s9 s10 : SL} {a : List D} {l : Ss} : Step (dApp 11 de ⟨nx, rt, bk, ct⟩ (s0 :: s1 :: s2 :: s3 :: s4 :: s5 :: s6 :: s7 :: s8 :: s9 :: s10 :: .own (.lst a) :: l) μ) (de (s0 :: s1 :: s2 :: s3 :: s4 :: s5 :: s6 :: s7 :: s8 :: s9 :: s10 :: .own (.lst a) :: l) μ fun d δ1 μ1 => apNx nx 11 d δ1 μ1) := ⟨fun h => app_11 h⟩
instance st_aug_0 {de : DE} {f : Int → Int → Int} {n : Int} {l : Ss} : Step (dAug 0 de f ⟨nx, rt, bk, ct⟩ (.val (.int n) :: l) μ) (de (.val (.int n) :: l) μ fun d δ1 μ1 => ∃ m, d = .int m ∧ nxSet nx 0 (.val (.int (f n m))) δ1 μ1) := ⟨fun h => aug_0 h⟩
instance st_aug_1 {de : DE} {f : Int → Int → Int} {s0 : SL} {n : Int} {l : Ss} : Step (dAug 1 de f ⟨nx, rt, bk, ct⟩ (s0 :: .val (.int n) :: l) μ) (de (s0 :: .val (.int n) :: l) μ fun d δ1 μ1 => ∃ m, d = .int m ∧ nxSet nx 1 (.val (.int (f n m))) δ1 μ1) := ⟨fun h => aug_1 h⟩
instance st_aug_2 {de : DE} {f : Int → Int → Int} {s0 s1 : SL} {n : Int} {l : Ss} : Step (dAug 2 de f ⟨nx, rt, bk, ct⟩ (s0 :: s1 :: .val (.int n) :: l) μ) (de (s0 :: s1 :: .val (.int n) :: l) μ fun d δ1 μ1 => ∃ m, d = .int m ∧ nxSet nx 2 (.val (.int (f n m))) δ1 μ1) := ⟨fun h => aug_2 h⟩
instance st_aug_3 {de : DE} {f : Int → Int → Int} {s0 s1 s2 : SL} {n : Int} {l : Ss} : Step (dAug 3 de f ⟨nx, rt, bk, ct⟩ (s0 :: s1 :: s2 :: .val (.int n) :: l) μ) (de (s0 :: s1 :: s2 :: .val (.int n) :: l) μ fun d δ1 μ1 => ∃ m, d = .int m ∧ nxSet nx 3 (.val (.int (f n m))) δ1 μ1) := ⟨fun h => aug_3 h⟩
instance st_aug_4 {de : DE} {f : Int → Int → Int} {s0 s1 s2 s3 : SL} {n : Int} {l : Ss} : Step (dAug 4 de f ⟨nx, rt, bk, ct⟩ (s0 :: s1 :: s2 :: s3 :: .val (.int n) :: l) μ) (de (s0 :: s1 :: s2 :: s3 :: .val (.int n) :: l) μ fun d δ1 μ1 => ∃ m, d = .int m ∧ nxSet nx 4 (.val (.int (f n m))) δ1 μ1) := ⟨fun h => aug_4 h⟩
instance st_aug_5 {de : DE} {f : Int → Int → Int} {s0 s1 s2 s3 s4 : SL} {n : Int} {l : Ss} : Step (dAug 5 de f ⟨nx, rt, bk, ct⟩ (s0 :: s1 :: s2 :: s3 :: s4 :: .val (.int n) :: l) μ) (de (s0 :: s1 :: s2 :: s3 :: s4 :: .val (.int n) :: l) μ fun d δ1 μ1 => ∃ m, d = .int m ∧ nxSet nx 5 (.val (.int (f n m))) δ1 μ1) := ⟨fun h => aug_5 h⟩
instance st_aug_6 {de : DE} {f : Int → Int → Int} {s0 s1 s2 s3 s4 s5 : SL} {n : Int} {l : Ss} : Step (dAug 6 de f ⟨nx, rt, bk, ct⟩ (s0 :: s1 :: s2 :: s3 :: s4 :: s5 :: .val (.int n) :: l) μ) (de (s0 :: s1 :: s2 :: s3 :: s4 :: s5 :: .val (.int n) :: l) μ fun d δ1 μ1 => ∃ m, d = .int m ∧ nxSet nx 6 (.val (.int (f n m))) δ1 μ1) := ⟨fun h => aug_6 h⟩
instance st_aug_7 {de : DE} {f : Int → Int → Int} {s0 s1 s2 s3 s4 s5 s6 : SL} {n : Int} {l : Ss} : Step (dAug 7 de f ⟨nx, rt, bk, ct⟩ (s0 :: s1 :: s2 :: s3 :: s4 :: s5 :: s6 :: .val (.int n) :: l) μ) (de (s0 :: s1 :: s2 :: s3 :: s4 :: s5 :: s6 :: .val (.int n) :: l) μ fun d δ1 μ1 => ∃ m, d = .int m ∧ nxSet nx 7 (.val (.int (f n m))) δ1 μ1) := ⟨fun h => aug_7 h⟩
instance st_aug_8 {de : DE} {f : Int → Int → Int} {s0 s1 s2 s3 s4 s5 s6 s7 : SL} {n : Int} {l : Ss} : Step (dAug 8 de f ⟨nx, rt, bk, ct⟩ (s0 :: s1 :: s2 :: s3 :: s4 :: s5 :: s6 :: s7 :: .val (.int n) :: l) μ) (de (s0 :: s1 :: s2 :: s3 :: s4 :: s5 :: s6 :: s7 :: .val (.int n) :: l) μ fun d δ1 μ1 => ∃ m, d = .int m ∧ nxSet nx 8 (.val (.int (f n m))) δ1 μ1) := ⟨fun h => aug_8 h⟩
instance st_aug_9 {de : DE} {f : Int → Int → Int} {s0 s1 s2 s3 s4 s5 s6 s7 s8 : SL} {n : Int} {l : Ss} : Step (dAug 9 de f ⟨nx, rt, bk, ct⟩ (s0 :: s1 :: s2 :: s3 :: s4 :: s5 :: s6 :: s7 :: s8 :: .val (.int n) :: l) μ) (de (s0 :: s1 :: s2 :: s3 :: s4 :: s5 :: s6 :: s7 :: s8 :: .val (.int n) :: l) μ fun d δ1 μ1 => ∃ m, d = .int m ∧ nxSet nx 9 (.val (.int (f n m))) δ1 μ1) := ⟨fun h => aug_9 h⟩
instance st_aug_10 {de : DE} {f : Int → Int → Int} {s0 s1 s2 s3 s4 s5 s6 s7 s8 s9 : SL} {n : Int} {l : Ss} : Step (dAug 10 de f ⟨nx, rt, bk, ct⟩ (s0 :: s1 :: s2 :: s3 :: s4 :: s5 :: s6 :: s7 :: s8 :: s9 :: .val (.int n) :: l) μ) (de (s0 :: s1 :: s2 :: s3 :: s4 :: s5 :: s6 :: s7 :: s8 :: s9 :: .val (.int n) :: l) μ fun d δ1 μ1 => ∃ m, d = .int m ∧ nxSet nx 10 (.val (.int (f n m))) δ1 μ1) := ⟨fun h => aug_10 h⟩
instance st_aug_11 {de : DE} {f : Int → Int → Int} {s0 s1 s2 s3 s4 s5 s6 s7 s8 s9 s10 : SL} {n : Int} {l : Ss} : Step (dAug 11 de f ⟨nx, rt, bk, ct⟩ (s0 :: s1 :: s2 :: s3 :: s4 :: s5 :: s6 :: s7 :: s8 :: s9 :: s10 :: .val (.int n) :: l) μ) (de (s0 :: s1 :: s2 :: s3 :: s4 :: s5 :: s6 :: s7 :: s8 :: s9 :: s10 :: .val (.int n) :: l) μ fun d δ1 μ1 => ∃ m, d = .int m ∧ nxSet nx 11 (.val (.int (f n m))) δ1 μ1) := ⟨fun h => aug_11 h⟩
instance st_oo_0 {d1 d2 : DE} {m : MO} {l : Ss} : Step (dOO 0 d1 d2 (.own m :: l) μ Q) (d1 (.own m :: l) μ Q) := ⟨fun h => oo_0 h⟩
instance st_ov_0 {d1 d2 : DE} {d : D} {l : Ss} : Step (dOO 0 d1 d2 (.val d :: l) μ Q) (d2 (.val d :: l) μ Q) := ⟨fun h => ov_0 h⟩
instance st_to_0 {d1 d2 : DT} {R : Bool → Ss → Mem → Prop} {m : MO} {l : Ss} : Step (dOT 0 d1 d2 (.own m :: l) μ R) (d1 (.own m :: l) μ R) := ⟨fun h => to_0 h⟩
instance st_tv_0 {d1 d2 : DT} {R : Bool → Ss → Mem → Prop} {d : D} {l : Ss} : Step (dOT 0 d1 d2 (.val d :: l) μ R) (d2 (.val d :: l) μ R) := ⟨fun h => tv_0 h⟩
instance st_lo_0 {a : List D} {l : Ss} : Step (dLenO 0 (.own (.lst a) :: l) μ Q) (Q (.int a.length) (.own (.lst a) :: l) μ) := ⟨fun h => lo_0 h⟩
instance st_so_0 {dl dh : DO} {m : MO} {l : Ss} : Step (dSlO 0 dl dh (.own m :: l) μ Q) (dl (.own m :: l) μ fun lo δ1 μ1 => dh δ1 μ1 fun hi δ2 μ2 => SlO 0 lo hi δ2 μ2 Q) := ⟨fun h => so_0 h⟩
instance st_se_0 {a : List D} {lo hi : Option Int} {l : Ss} : Step (SlO 0 lo hi (.own (.lst a) :: l) μ Q) (Q (.lst (cutD a lo hi)) (.own (.lst a) :: l) μ) := ⟨fun h => se_0 h⟩
instance st_xo_0 {db : DE} {m : MO} {l : Ss} : Step (dIxO 0 db (.own m :: l) μ Q) (db (.own m :: l) μ fun y δ1 μ1 => IxO 0 y δ1 μ1 Q) := ⟨fun h => xo_0 h⟩
instance st_xe_0 {a : List D} {y : D} {l : Ss} : Step (IxO 0 y (.own (.lst a) :: l) μ Q) (rdIx (.lst a) y μ fun d μ1 => Q d (.own (.lst a) :: l) μ1) := ⟨fun h => xe_0 h⟩
instance st_oo_1 {d1 d2 : DE} {s0 : SL} {m : MO} {l : Ss} : Step (dOO 1 d1 d2 (s0 :: .own m :: l) μ Q) (d1 (s0 :: .own m :: l) μ Q) := ⟨fun h => oo_1 h⟩
instance st_ov_1 {d1 d2 : DE} {s0 : SL} {d : D} {l : Ss} : Step (dOO 1 d1 d2 (s0 :: .val d :: l) μ Q) (d2 (s0 :: .val d :: l) μ Q) := ⟨fun h => ov_1 h⟩
instance st_to_1 {d1 d2 : DT} {R : Bool → Ss → Mem → Prop} {s0 : SL} {m : MO} {l : Ss} : Step (dOT 1 d1 d2 (s0 :: .own m :: l) μ R) (d1 (s0 :: .own m :: l) μ R) := ⟨fun h => to_1 h⟩
instance st_tv_1 {d1 d2 : DT} {R : Bool → Ss → Mem → Prop} {s0 : SL} {d : D} {l : Ss} : Step (dOT 1 d1 d2 (s0 :: .val d :: l) μ R) (d2 (s0 :: .val d :: l) μ R) := ⟨fun h => tv_1 h⟩
instance st_lo_1 {s0 : SL} {a : List D} {l : Ss} : Step (dLenO 1 (s0 :: .own (.lst a) :: l) μ Q) (Q (.int a.length) (s0 :: .own (.lst a) :: l) μ) := ⟨fun h => lo_1 h⟩
instance st_so_1 {dl dh : DO} {s0 : SL} {m : MO} {l : Ss} : Step (dSlO 1 dl dh (s0 :: .own m :: l) μ Q) (dl (s0 :: .own m :: l) μ fun lo δ1 μ1 => dh δ1 μ1 fun hi δ2 μ2 => SlO 1 lo hi δ2 μ2 Q) := ⟨fun h => so_1 h⟩
instance st_se_1 {s0 : SL} {a : List D} {lo hi : Option Int} {l : Ss} : Step (SlO 1 lo hi (s0 :: .own (.lst a) :: l) μ Q) (Q (.lst (cutD a lo hi)) (s0 :: .own (.lst a) :: l) μ) := ⟨fun h => se_1 h⟩
instance st_xo_1 {db : DE} {s0 : SL} {m : MO} {l : Ss} : Step (dIxO 1 db (s0 :: .own m :: l) μ Q) (db (s0 :: .own m :: l) μ fun y δ1 μ1 => IxO 1 y δ1 μ1 Q) := ⟨fun h => xo_1 h⟩
instance st_xe_1 {s0 : SL} {a : List D} {y : D} {l : Ss} : Step (IxO 1 y (s0 :: .own (.lst a) :: l) μ Q) (rdIx (.lst a) y μ fun d μ1 => Q d (s0 :: .own (.lst a) :: l) μ1) := ⟨fun h => xe_1 h⟩
instance st_oo_2 {d1 d2 : DE} {s0 s1 : SL} {m : MO} {l : Ss} : Step (dOO 2 d1 d2 (s0 :: s1 :: .own m :: l) μ Q) (d1 (s0 :: s1 :: .own m :: l) μ Q) := ⟨fun h => oo_2 h⟩
instance st_ov_2 {d1 d2 : DE} {s0 s1 : SL} {d : D} {l : Ss} : Step (dOO 2 d1 d2 (s0 :: s1 :: .val d :: l) μ Q) (d2 (s0 :: s1 :: .val d :: l) μ Q) := ⟨fun h => ov_2 h⟩
instance st_to_2 {d1 d2 : DT} {R : Bool → Ss → Mem → Prop} {s0 s1 : SL} {m : MO} {l : Ss} : Step (dOT 2 d1 d2 (s0 :: s1 :: .own m :: l) μ R) (d1 (s0 :: s1 :: .own m :: l) μ R) := ⟨fun h => to_2 h⟩
instance st_tv_2 {d1 d2 : DT} {R : Bool → Ss → Mem → Prop} {s0 s1 : SL} {d : D} {l : Ss} : Step (dOT 2 d1 d2 (s0 :: s1 :: .val d :: l) μ R) (d2 (s0 :: s1 :: .val d :: l) μ R) := ⟨fun h => tv_2 h⟩
instance st_lo_2 {s0 s1 : SL} {a : List D} {l : Ss} : Step (dLenO 2 (s0 :: s1 :: .own (.lst a) :: l) μ Q) (Q (.int a.length) (s0 :: s1 :: .own (.lst a) :: l) μ) := ⟨fun h => lo_2 h⟩
instance st_so_2 {dl dh : DO} {s0 s1 : SL} {m : MO} {l : Ss} : Step (dSlO 2 dl dh (s0 :: s1 :: .own m :: l) μ Q) (dl (s0 :: s1 :: .own m :: l) μ fun lo δ1 μ1 => dh δ1 μ1 fun hi δ2 μ2 => SlO 2 lo hi δ2 μ2 Q) := ⟨fun h => so_2 h⟩
instance st_se_2 {s0 s1 : SL} {a : List D} {lo hi : Option Int} {l : Ss} : Step (SlO 2 lo hi (s0 :: s1 :: .own (.lst a) :: l) μ Q) (Q (.lst (cutD a lo hi)) (s0 :: s1 :: .own (.lst a) :: l) μ) := ⟨fun h => se_2 h⟩
instance st_xo_2 {db : DE} {s0 s1 : SL} {m : MO} {l : Ss} : Step (dIxO 2 db (s0 :: s1 :: .own m :: l) μ Q) (db (s0 :: s1 :: .own m :: l) μ fun y δ1 μ1 => IxO 2 y δ1 μ1 Q) := ⟨fun h => xo_2 h⟩
instance st_xe_2 {s0 s1 : SL} {a : List D} {y : D} {l : Ss} : Step (IxO 2 y (s0 :: s1 :: .own (.lst a) :: l) μ Q) (rdIx (.lst a) y μ fun d μ1 => Q d (s0 :: s1 :: .own (.lst a) :: l) μ1) := ⟨fun h => xe_2 h⟩
instance st_oo_3 {d1 d2 : DE} {s0 s1 s2 : SL} {m : MO} {l : Ss} : Step (dOO 3 d1 d2 (s0 :: s1 :: s2 :: .own m :: l) μ Q) (d1 (s0 :: s1 :: s2 :: .own m :: l) μ Q) := ⟨fun h => oo_3 h⟩
instance st_ov_3 {d1 d2 : DE} {s0 s1 s2 : SL} {d : D} {l : Ss} : Step (dOO 3 d1 d2 (s0 :: s1 :: s2 :: .val d :: l) μ Q) (d2 (s0 :: s1 :: s2 :: .val d :: l) μ Q) := ⟨fun h => ov_3 h⟩
instance st_to_3 {d1 d2 : DT} {R : Bool → Ss → Mem → Prop} {s0 s1 s2 : SL} {m : MO} {l : Ss} : Step (dOT 3 d1 d2 (s0 :: s1 :: s2 :: .own m :: l) μ R) (d1 (s0 :: s1 :: s2 :: .own m :: l) μ R) := ⟨fun h => to_3 h⟩
instance st_tv_3 {d1 d2 : DT} {R : Bool → Ss → Mem → Prop} {s0 s1 s2 : SL} {d : D} {l : Ss} : Step (dOT 3 d1 d2 (s0 :: s1 :: s2 :: .val d :: l) μ R) (d2 (s0 :: s1 :: s2 :: .val d :: l) μ R) := ⟨fun h => tv_3 h⟩
instance st_lo_3 {s0 s1 s2 : SL} {a : List D} {l : Ss} : Step (dLenO 3 (s0 :: s1 :: s2 :: .own (.lst a) :: l) μ Q) (Q (.int a.length) (s0 :: s1 :: s2 :: .own (.lst a) :: l) μ) := ⟨fun h => lo_3 h⟩
instance st_so_3 {dl dh : DO} {s0 s1 s2 : SL} {m : MO} {l : Ss} : Step (dSlO 3 dl dh (s0 :: s1 :: s2 :: .own m :: l) μ Q) (dl (s0 :: s1 :: s2 :: .own m :: l) μ fun lo δ1 μ1 => dh δ1 μ1 fun hi δ2 μ2 => SlO 3 lo hi δ2 μ2 Q) := ⟨fun h => so_3 h⟩
instance st_se_3 {s0 s1 s2 : SL} {a : List D} {lo hi : Option Int} {l : Ss} : Step (SlO 3 lo hi (s0 :: s1 :: s2 :: .own (.lst a) :: l) μ Q) (Q (.lst (cutD a lo hi)) (s0 :: s1 :: s2 :: .own (.lst a) :: l) μ) := ⟨fun h => se_3 h⟩
instance st_xo_3 {db : DE} {s0 s1 s2 : SL} {m : MO} {l : Ss} : Step (dIxO 3 db (s0 :: s1 :: s2 :: .own m :: l) μ Q) (db (s0 :: s1 :: s2 :: .own m :: l) μ fun y δ1 μ1 => IxO 3 y δ1 μ1 Q) := ⟨fun h => xo_3 h⟩
instance st_xe_3 {s0 s1 s2 : SL} {a : List D} {y : D} {l : Ss} : Step (IxO 3 y (s0 :: s1 :: s2 :: .own (.lst a) :: l) μ Q) (rdIx (.lst a) y μ fun d μ1 => Q d (s0 :: s1 :: s2 :: .own (.lst a) :: l) μ1) := ⟨fun h => xe_3 h⟩
instance st_oo_4 {d1 d2 : DE} {s0 s1 s2 s3 : SL} {m : MO} {l : Ss} : Step (dOO 4 d1 d2 (s0 :: s1 :: s2 :: s3 :: .own m :: l) μ Q) (d1 (s0 :: s1 :: s2 :: s3 :: .own m :: l) μ Q) := ⟨fun h => oo_4 h⟩
instance st_ov_4 {d1 d2 : DE} {s0 s1 s2 s3 : SL} {d : D} {l : Ss} : Step (dOO 4 d1 d2 (s0 :: s1 :: s2 :: s3 :: .val d :: l) μ Q) (d2 (s0 :: s1 :: s2 :: s3 :: .val d :: l) μ Q) := ⟨fun h => ov_4 h⟩
instance st_to_4 {d1 d2 : DT} {R : Bool → Ss → Mem → Prop} {s0 s1 s2 s3 : SL} {m : MO} {l : Ss} : Step (dOT 4 d1 d2 (s0 :: s1 :: s2 :: s3 :: .own m :: l) μ R) (d1 (s0 :: s1 :: s2 :: s3 :: .own m :: l) μ R) := ⟨fun h => to_4 h⟩
instance st_tv_4 {d1 d2 : DT} {R : Bool → Ss → Mem → Prop} {s0 s1 s2 s3 : SL} {d : D} {l : Ss} : Step (dOT 4 d1 d2 (s0 :: s1 :: s2 :: s3 :: .val d :: l) μ R) (d2 (s0 :: s1 :: s2 :: s3 :: .val d :: l) μ R) := ⟨fun h => tv_4 h⟩
instance st_lo_4 {s0 s1 s2 s3 : SL} {a : List D} {l : Ss} : Step (dLenO 4 (s0 :: s1 :: s2 :: s3 :: .own (.lst a) :: l) μ Q) (Q (.int a.length) (s0 :: s1 :: s2 :: s3 :: .own (.lst a) :: l) μ) := ⟨fun h => lo_4 h⟩
instance st_so_4 {dl dh : DO} {s0 s1 s2 s3 : SL} {m : MO} {l : Ss} : Step (dSlO 4 dl dh (s0 :: s1 :: s2 :: s3 :: .own m :: l) μ Q) (dl (s0 :: s1 :: s2 :: s3 :: .own m :: l) μ fun lo δ1 μ1 => dh δ1 μ1 fun hi δ2 μ2 => SlO 4 lo hi δ2 μ2 Q) := ⟨fun h => so_4 h⟩
instance st_se_4 {s0 s1 s2 s3 : SL} {a : List D} {lo hi : Option Int} {l : Ss} : Step (SlO 4 lo hi (s0 :: s1 :: s2 :: s3 :: .own (.lst a) :: l) μ Q) (Q (.lst (cutD a lo hi)) (s0 :: s1 :: s2 :: s3 :: .own (.lst a) :: l) μ) := ⟨fun h => se_4 h⟩
instance st_xo_4 {db : DE} {s0 s1 s2 s3 : SL} {m : MO} {l : Ss} : Step (dIxO 4 db (s0 :: s1 :: s2 :: s3 :: .own m :: l) μ Q) (db (s0 :: s1 :: s2 :: s3 :: .own m :: l) μ fun y δ1 μ1 => IxO 4 y δ1 μ1 Q) := ⟨fun h => xo_4 h⟩
instance st_xe_4 {s0 s1 s2 s3 : SL} {a : List D} {y : D} {l : Ss} : Step (IxO 4 y (s0 :: s1 :: s2 :: s3 :: .own (.lst a) :: l) μ Q) (rdIx (.lst a) y μ fun d μ1 => Q d (s0 :: s1 :: s2 :: s3 :: .own (.lst a) :: l) μ1) := ⟨fun h => xe_4 h⟩
instance st_oo_5 {d1 d2 : DE} {s0 s1 s2 s3 s4 : SL} {m : MO} {l : Ss} : Step (dOO 5 d1 d2 (s0 :: s1 :: s2 :: s3 :: s4 :: .own m :: l) μ Q) (d1 (s0 :: s1 :: s2 :: s3 :: s4 :: .own m :: l) μ Q) := ⟨fun h => oo_5 h⟩
instance st_ov_5 {d1 d2 : DE} {s0 s1 s2 s3 s4 : SL} {d : D} {l : Ss} : Step (dOO 5 d1 d2 (s0 :: s1 :: s2 :: s3 :: s4 :: .val d :: l) μ Q) (d2 (s0 :: s1 :: s2 :: s3 :: s4 :: .val d :: l) μ Q) := ⟨fun h => ov_5 h⟩
instance st_to_5 {d1 d2 : DT} {R : Bool → Ss → Mem → Prop} {s0 s1 s2 s3 s4 : SL} {m : MO} {l : Ss} : Step (dOT 5 d1 d2 (s0 :: s1 :: s2 :: s3 :: s4 :: .own m :: l) μ R) (d1 (s0 :: s1 :: s2 :: s3 :: s4 :: .own m :: l) μ R) := ⟨fun h => to_5 h⟩
instance st_tv_5 {d1 d2 : DT} {R : Bool → Ss → Mem → Prop} {s0 s1 s2 s3 s4 : SL} {d : D} {l : Ss} : Step (dOT 5 d1 d2 (s0 :: s1 :: s2 :: s3 :: s4 :: .val d :: l) μ R) (d2 (s0 :: s1 :: s2 :: s3 :: s4 :: .val d :: l) μ R) := ⟨fun h => tv_5 h⟩
instance st_lo_5 {s0 s1 s2 s3 s4 : SL} {a : List D} {l : Ss} : Step (dLenO 5 (s0 :: s1 :: s2 :: s3 :: s4 :: .own (.lst a) :: l) μ Q) (Q (.int a.length) (s0 :: s1 :: s2 :: s3 :: s4 :: .own (.lst a) :: l) μ) := ⟨fun h => lo_5 h⟩
instance st_so_5 {dl dh : DO} {s0 s1 s2 s3 s4 : SL} {m : MO} {l : Ss} : Step (dSlO 5 dl dh (s0 :: s1 :: s2 :: s3 :: s4 :: .own m :: l) μ Q) (dl (s0 :: s1 :: s2 :: s3 :: s4 :: .own m :: l) μ fun lo δ1 μ1 => dh δ1 μ1 fun hi δ2 μ2 => SlO 5 lo hi δ2 μ2 Q) := ⟨fun h => so_5 h⟩
instance st_se_5 {s0 s1 s2 s3 s4 : SL} {a : List D} {lo hi : Option Int} {l : Ss} : Step (SlO 5 lo hi (s0 :: s1 :: s2 :: s3 :: s4 :: .own (.lst a) :: l) μ Q) (Q (.lst (cutD a lo hi)) (s0 :: s1 :: s2 :: s3 :: s4 :: .own (.lst a) :: l) μ) := ⟨fun h => se_5 h⟩
instance st_xo_5 {db : DE} {s0 s1 s2 s3 s4 : SL} {m : MO} {l : Ss} : Step (dIxO 5 db (s0 :: s1 :: s2 :: s3 :: s4 :: .own m :: l) μ Q) (db (s0 :: s1 :: s2 :: s3 :: s4 :: .own m :: l) μ fun y δ1 μ1 => IxO 5 y δ1 μ1 Q) := ⟨fun h => xo_5 h⟩
instance st_xe_5 {s0 s1 s2 s3 s4 : SL} {a : List D} {y : D} {l : Ss} : Step (IxO 5 y (s0 :: s1 :: s2 :: s3 :: s4 :: .own (.lst a) :: l) μ Q) (rdIx (.lst a) y μ fun d μ1 => Q d (s0 :: s1 :: s2 :: s3 :: s4 :: .own (.lst a) :: l) μ1) := ⟨fun h => xe_5 h⟩
instance st_oo_6 {d1 d2 : DE} {s0 s1 s2 s3 s4 s5 : SL} {m : MO} {l : Ss} : Step (dOO 6 d1 d2 (s0 :: s1 :: s2 :: s3 :: s4 :: s5 :: .own m :: l) μ Q) (d1 (s0 :: s1 :: s2 :: s3 :: s4 :: s5 :: .own m :: l) μ Q) := ⟨fun h => oo_6 h⟩
instance st_ov_6 {d1 d2 : DE} {s0 s1 s2 s3 s4 s5 : SL} {d : D} {l : Ss} : Step (dOO 6 d1 d2 (s0 :: s1 :: s2 :: s3 :: s4 :: s5 :: .val d :: l) μ Q) (d2 (s0 :: s1 :: s2 :: s3 :: s4 :: s5 :: .val d :: l) μ Q) := ⟨fun h => ov_6 h⟩
instance st_to_6 {d1 d2 : DT} {R : Bool → Ss → Mem → Prop} {s0 s1 s2 s3 s4 s5 : SL} {m : MO} {l : Ss} : Step (dOT 6 d1 d2 (s0 :: s1 :: s2 :: s3 :: s4 :: s5 :: .own m :: l) μ R) (d1 (s0 :: s1 :: s2 :: s3 :: s4 :: s5 :: .own m :: l) μ R) := ⟨fun h => to_6 h⟩
instance st_tv_6 {d1 d2 : DT} {R : Bool → Ss → Mem → Prop} {s0 s1 s2 s3 s4 s5 : SL} {d : D} {l : Ss} : Step (dOT 6 d1 d2 (s0 :: s1 :: s2 :: s3 :: s4 :: s5 :: .val d :: l) μ R) (d2 (s0 :: s1 :: s2 :: s3 :: s4 :: s5 :: .val d :: l) μ R) := ⟨fun h => tv_6 h⟩
instance st_lo_6 {s0 s1 s2 s3 s4 s5 : SL} {a : List D} {l : Ss} : Step (dLenO 6 (s0 :: s1 :: s2 :: s3 :: s4 :: s5 :: .own (.lst a) :: l) μ Q) (Q (.int a.length) (s0 :: s1 :: s2 :: s3 :: s4 :: s5 :: .own (.lst a) :: l) μ) := ⟨fun h => lo_6 h⟩
instance st_so_6 {dl dh : DO} {s0 s1 s2 s3 s4 s5 : SL} {m : MO} {l : Ss} : Step (dSlO 6 dl dh (s0 :: s1 :: s2 :: s3 :: s4 :: s5 :: .own m :: l) μ Q) (dl (s0 :: s1 :: s2 :: s3 :: s4 :: s5 :: .own m :: l) μ fun lo δ1 μ1 => dh δ1 μ1 fun hi δ2 μ2 => SlO 6 lo hi δ2 μ2 Q) := ⟨fun h => so_6 h⟩
instance st_se_6 {s0 s1 s2 s3 s4 s5 : SL} {a : List D} {lo hi : Option Int} {l : Ss} : Step (SlO 6 lo hi (s0 :: s1 :: s2 :: s3 :: s4 :: s5 :: .own (.lst a) :: l) μ Q) (Q (.lst (cutD a lo hi)) (s0 :: s1 :: s2 :: s3 :: s4 :: s5 :: .own (.lst a) :: l) μ) := ⟨fun h => se_6 h⟩
instance st_xo_6 {db : DE} {s0 s1 s2 s3 s4 s5 : SL} {m : MO} {l : Ss} : Step (dIxO 6 db (s0 :: s1 :: s2 :: s3 :: s4 :: s5 :: .own m :: l) μ Q) (db (s0 :: s1 :: s2 :: s3 :: s4 :: s5 :: .own m :: l) μ fun y δ1 μ1 => IxO 6 y δ1 μ1 Q) := ⟨fun h => xo_6 h⟩
instance st_xe_6 {s0 s1 s2 s3 s4 s5 : SL} {a : List D} {y : D} {l : Ss} : Step (IxO 6 y (s0 :: s1 :: s2 :: s3 :: s4 :: s5 :: .own (.lst a) :: l) μ Q) (rdIx (.lst a) y μ fun d μ1 => Q d (s0 :: s1 :: s2 :: s3 :: s4 :: s5 :: .own (.lst a) :: l) μ1) := ⟨fun h => xe_6 h⟩
instance st_oo_7 {d1 d2 : DE} {s0 s1 s2 s3 s4 s5 s6 : SL} {m : MO} {l : Ss} : Step (dOO 7 d1 d2 (s0 :: s1 :: s2 :: s3 :: s4 :: s5 :: s6 :: .own m :: l) μ Q) (d1 (s0 :: s1 :: s2 :: s3 :: s4 :: s5 :: s6 :: .own m :: l) μ Q) := ⟨fun h => oo_7 h⟩
instance st_ov_7 {d1 d2 : DE} {s0 s1 s2 s3 s4 s5 s6 : SL} {d : D} {l : Ss} : Step (dOO 7 d1 d2 (s0 :: s1 :: s2 :: s3 :: s4 :: s5 :: s6 :: .val d :: l) μ Q) (d2 (s0 :: s1 :: s2 :: s3 :: s4 :: s5 :: s6 :: .val d :: l) μ Q) := ⟨fun h => ov_7 h⟩
instance st_to_7 {d1 d2 : DT} {R : Bool → Ss → Mem → Prop} {s0 s1 s2 s3 s4 s5 s6 : SL} {m : MO} {l : Ss} : Step (dOT 7 d1 d2 (s0 :: s1 :: s2 :: s3 :: s4 :: s5 :: s6 :: .own m :: l) μ R) (d1 (s0 :: s1 :: s2 :: s3 :: s4 :: s5 :: s6 :: .own m :: l) μ R) := ⟨fun h => to_7 h⟩
instance st_tv_7 {d1 d2 : DT} {R : Bool → Ss → Mem → Prop} {s0 s1 s2 s3 s4 s5 s6 : SL} {d : D} {l : Ss} : Step (dOT 7 d1 d2 (s0 :: s1 :: s2 :: s3 :: s4 :: s5 :: s6 :: .val d :: l) μ R) (d2 (s0 :: s1 :: s2 :: s3 :: s4 :: s5 :: s6 :: .val d :: l) μ R) := ⟨fun h => tv_7 h⟩
instance st_lo_7 {s0 s1 s2 s3 s4 s5 s6 : SL} {a : List D} {l : Ss} : Step (dLenO 7 (s0 :: s1 :: s2 :: s3 :: s4 :: s5 :: s6 :: .own (.lst a) :: l) μ Q) (Q (.int a.length) (s0 :: s1 :: s2 :: s3 :: s4 :: s5 :: s6 :: .own (.lst a) :: l) μ) := ⟨fun h => lo_7 h⟩
instance st_so_7 {dl dh : DO} {s0 s1 s2 s3 s4 s5 s6 : SL} {m : MO} {l : Ss} : Step (dSlO 7 dl dh (s0 :: s1 :: s2 :: s3 :: s4 :: s5 :: s6 :: .own m :: l) μ Q) (dl (s0 :: s1 :: s2 :: s3 :: s4 :: s5 :: s6 :: .own m :: l) μ fun lo δ1 μ1 => dh δ1 μ1 fun hi δ2 μ2 => SlO 7 lo hi δ2 μ2 Q) := ⟨fun h => so_7 h⟩
instance st_se_7 {s0 s1 s2 s3 s4 s5 s6 : SL} {a : List D} {lo hi : Option Int} {l : Ss} : Step (SlO 7 lo hi (s0 :: s1 :: s2 :: s3 :: s4 :: s5 :: s6 :: .own (.lst a) :: l) μ Q) (Q (.lst (cutD a lo hi)) (s0 :: s1 :: s2 :: s3 :: s4 :: s5 :: s6 :: .own (.lst a) :: l) μ) := ⟨fun h => se_7 h⟩
instance st_xo_7 {db : DE} {s0 s1 s2 s3 s4 s5 s6 : SL} {m : MO} {l : Ss} : Step (dIxO 7 db (s0 :: s1 :: s2 :: s3 :: s4 :: s5 :: s6 :: .own m :: l) μ Q) (db (s0 :: s1 :: s2 :: s3 :: s4 :: s5 :: s6 :: .own m :: l) μ fun y δ1 μ1 => IxO 7 y δ1 μ1 Q) := ⟨fun h => xo_7 h⟩
instance st_xe_7 {s0 s1 s2 s3 s4 s5 s6 : SL} {a : List D} {y : D} {l : Ss} : Step (IxO 7 y (s0 :: s1 :: s2 :: s3 :: s4 :: s5 :: s6 :: .own (.lst a) :: l) μ Q) (rdIx (.lst a) y μ fun d μ1 => Q d (s0 :: s1 :: s2 :: s3 :: s4 :: s5 :: s6 :: .own (.lst a) :: l) μ1) := ⟨fun h => xe_7 h⟩
instance st_oo_8 {d1 d2 : DE} {s0 s1 s2 s3 s4 s5 s6 s7 : SL} {m : MO} {l : Ss} : Step (dOO 8 d1 d2 (s0 :: s1 :: s2 :: s3 :: s4 :: s5 :: s6 :: s7 :: .own m :: l) μ Q) (d1 (s0 :: s1 :: s2 :: s3 :: s4 :: s5 :: s6 :: s7 :: .own m :: l) μ Q) := ⟨fun h => oo_8 h⟩
instance st_ov_8 {d1 d2 : DE} {s0 s1 s2 s3 s4 s5 s6 s7 : SL} {d : D} {l : Ss} : Step (dOO 8 d1 d2 (s0 :: s1 :: s2 :: s3 :: s4 :: s5 :: s6 :: s7 :: .val d :: l) μ Q) (d2 (s0 :: s1 :: s2 :: s3 :: s4 :: s5 :: s6 :: s7 :: .val d :: l) μ Q) := ⟨fun h => ov_8 h⟩
instance st_to_8 {d1 d2 : DT} {R : Bool → Ss → Mem → Prop} {s0 s1 s2 s3 s4 s5 s6 s7 : SL} {m : MO} {l : Ss} : Step (dOT 8 d1 d2 (s0 :: s1 :: s2 :: s3 :: s4 :: s5 :: s6 :: s7 :: .own m :: l) μ R) (d1 (s0 :: s1 :: s2 :: s3 :: s4 :: s5 :: s6 :: s7 :: .own m :: l) μ R) := ⟨fun h => to_8 h⟩
instance st_tv_8 {d1 d2 : DT} {R : Bool → Ss → Mem → Prop} {s0 s1 s2 s3 s4 s5 s6 s7 : SL} {d : D} {l : Ss} : Step (dOT 8 d1 d2 (s0 :: s1 :: s2 :: s3 :: s4 :: s5 :: s6 :: s7 :: .val d :: l) μ R) (d2 (s0 :: s1 :: s2 :: s3 :: s4 :: s5 :: s6 :: s7 :: .val d :: l) μ R) := ⟨fun h => tv_8 h⟩
instance st_lo_8 {s0 s1 s2 s3 s4 s5 s6 s7 : SL} {a : List D} {l : Ss} : Step (dLenO 8 (s0 :: s1 :: s2 :: s3 :: s4 :: s5 :: s6 :: s7 :: .own (.lst a) :: l) μ Q) (Q (.int a.length) (s0 :: s1 :: s2 :: s3 :: s4 :: s5 :: s6 :: s7 :: .own (.lst a) :: l) μ) := ⟨fun h => lo_8 h⟩
instance st_so_8 {dl dh : DO} {s0 s1 s2 s3 s4 s5 s6 s7 : SL} {m : MO} {l : Ss} : Step (dSlO 8 dl dh (s0 :: s1 :: s2 :: s3 :: s4 :: s5 :: s6 :: s7 :: .own m :: l) μ Q) (dl (s0 :: s1 :: s2 :: s3 :: s4 :: s5 :: s6 :: s7 :: .own m :: l) μ fun lo δ1 μ1 => dh δ1 μ1 fun hi δ2 μ2 => SlO 8 lo hi δ2 μ2 Q) := ⟨fun h => so_8 h⟩
instance st_se_8 {s0 s1 s2 s3 s4 s5 s6 s7 : SL} {a : List D} {lo hi : Option Int} {l : Ss} : Step (SlO 8 lo hi (s0 :: s1 :: s2 :: s3 :: s4 :: s5 :: s6 :: s7 :: .own (.lst a) :: l) μ Q) (Q (.lst (cutD a lo hi)) (s0 :: s1 :: s2 :: s3 :: s4 :: s5 :: s6 :: s7 :: .own (.lst a) :: l) μ) := ⟨fun h => se_8 h⟩
instance st_xo_8 {db : DE} {s0 s1 s2 s3 s4 s5 s6 s7 : SL} {m : MO} {l : Ss} : Step (dIxO 8 db (s0 :: s1 :: s2 :: s3 :: s4 :: s5 :: s6 :: s7 :: .own m :: l) μ Q) (db (s0 :: s1 :: s2 :: s3 :: s4 :: s5 :: s6 :: s7 :: .own m :: l) μ fun y δ1 μ1 => IxO 8 y δ1 μ1 Q) := ⟨fun h => xo_8 h⟩
instance st_xe_8 {s0 s1 s2 s3 s4 s5 s6 s7 : SL} {a : List D} {y : D} {l : Ss} : Step (IxO 8 y (s0 :: s1 :: s2 :: s3 :: s4 :: s5 :: s6 :: s7 :: .own (.lst a) :: l) μ Q) (rdIx (.lst a) y μ fun d μ1 => Q d (s0 :: s1 :: s2 :: s3 :: s4 :: s5 :: s6 :: s7 :: .own (.lst a) :: l) μ1) := ⟨fun h => xe_8 h⟩
instance st_oo_9 {d1 d2 : DE} {s0 s1 s2 s3 s4 s5 s6 s7 s8 : SL} {m : MO} {l : Ss} : Step (dOO 9 d1 d2 (s0 :: s1 :: s2 :: s3 :: s4 :: s5 :: s6 :: s7 :: s8 :: .own m :: l) μ Q) (d1 (s0 :: s1 :: s2 :: s3 :: s4 :: s5 :: s6 :: s7 :: s8 :: .own m :: l) μ Q) := ⟨fun h => oo_9 h⟩
instance st_ov_9 {d1 d2 : DE} {s0 s1 s2 s3 s4 s5 s6 s7 s8 : SL} {d : D} {l : Ss} : Step (dOO 9 d1 d2 (s0 :: s1 :: s2 :: s3 :: s4 :: s5 :: s6 :: s7 :: s8 :: .val d :: l) μ Q) (d2 (s0 :: s1 :: s2 :: s3 :: s4 :: s5 :: s6 :: s7 :: s8 :: .val d :: l) μ Q) := ⟨fun h => ov_9 h⟩
instance st_to_9 {d1 d2 : DT} {R : Bool → Ss → Mem → Prop} {s0 s1 s2 s3 s4 s5 s6 s7 s8 : SL} {m : MO} {l : Ss} : Step (dOT 9 d1 d2 (s0 :: s1 :: s2 :: s3 :: s4 :: s5 :: s6 :: s7 :: s8 :: .own m :: l) μ R) (d1 (s0 :: s1 :: s2 :: s3 :: s4 :: s5 :: s6 :: s7 :: s8 :: .own m :: l) μ R) := ⟨fun h => to_9 h⟩
instance st_tv_9 {d1 d2 : DT} {R : Bool → Ss → Mem → Prop} {s0 s1 s2 s3 s4 s5 s6 s7 s8 : SL} {d : D} {l : Ss} : Step (dOT 9 d1 d2 (s0 :: s1 :: s2 :: s3 :: s4 :: s5 :: s6 :: s7 :: s8 :: .val d :: l) μ R) (d2 (s0 :: s1 :: s2 :: s3 :: s4 :: s5 :: s6 :: s7 :: s8 :: .val d :: l) μ R) := ⟨fun h => tv_9 h⟩
instance st_lo_9 {s0 s1 s2 s3 s4 s5 s6 s7 s8 : SL} {a : List D} {l : Ss} : Step (dLenO 9 (s0 :: s1 :: s2 :: s3 :: s4 :: s5 :: s6 :: s7 :: s8 :: .own (.lst a) :: l) μ Q) (Q (.int a.length) (s0 :: s1 :: s2 :: s3 :: s4 :: s5 :: s6 :: s7 :: s8 :: .own (.lst a) :: l) μ) := ⟨fun h => lo_9 h⟩
instance st_so_9 {dl dh : DO} {s0 s1 s2 s3 s4 s5 s6 s7 s8 : SL} {m : MO} {l : Ss} : Step (dSlO 9 dl dh (s0 :: s1 :: s2 :: s3 :: s4 :: s5 :: s6 :: s7 :: s8 :: .own m :: l) μ Q) (dl (s0 :: s1 :: s2 :: s3 :: s4 :: s5 :: s6 :: s7 :: s8 :: .own m :: l) μ fun lo δ1 μ1 => dh δ1 μ1 fun hi δ2 μ2 => SlO 9 lo hi δ2 μ2 Q) := ⟨fun h => so_9 h⟩
instance st_se_9 {s0 s1 s2 s3 s4 s5 s6 s7 s8 : SL} {a : List D} {lo hi : Option Int} {l : Ss} : Step (SlO 9 lo hi (s0 :: s1 :: s2 :: s3 :: s4 :: s5 :: s6 :: s7 :: s8 :: .own (.lst a) :: l) μ Q) (Q (.lst (cutD a lo hi)) (s0 :: s1 :: s2 :: s3 :: s4 :: s5 :: s6 :: s7 :: s8 :: .own (.lst a) :: l) μ) := ⟨fun h => se_9 h⟩
instance st_xo_9 {db : DE} {s0 s1 s2 s3 s4 s5 s6 s7 s8 : SL} {m : MO} {l : Ss} : Step (dIxO 9 db (s0 :: s1 :: s2 :: s3 :: s4 :: s5 :: s6 :: s7 :: s8 :: .own m :: l) μ Q) (db (s0 :: s1 :: s2 :: s3 :: s4 :: s5 :: s6 :: s7 :: s8 :: .own m :: l) μ fun y δ1 μ1 => IxO 9 y δ1 μ1 Q) := ⟨fun h => xo_9 h⟩
instance st_xe_9 {s0 s1 s2 s3 s4 s5 s6 s7 s8 : SL} {a : List D} {y : D} {l : Ss} : Step (IxO 9 y (s0 :: s1 :: s2 :: s3 :: s4 :: s5 :: s6 :: s7 :: s8 :: .own (.lst a) :: l) μ Q) (rdIx (.lst a) y μ fun d μ1 => Q d (s0 :: s1 :: s2 :: s3 :: s4 :: s5 :: s6 :: s7 :: s8 :: .own (.lst a) :: l) μ1) := ⟨fun h => xe_9 h⟩
instance st_oo_10 {d1 d2 : DE} {s0 s1 s2 s3 s4 s5 s6 s7 s8 s9 : SL} {m : MO} {l : Ss} : Step (dOO 10 d1 d2 (s0 :: s1 :: s2 :: s3 :: s4 :: s5 :: s6 :: s7 :: s8 :: s9 :: .own m :: l) μ Q) (d1 (s0 :: s1 :: s2 :: s3 :: s4 :: s5 :: s6 :: s7 :: s8 :: s9 :: .own m :: l) μ Q) := ⟨fun h => oo_10 h⟩
instance st_ov_10 {d1 d2 : DE} {s0 s1 s2 s3 s4 s5 s6 s7 s8 s9 : SL} {d : D} {l : Ss} : Step (dOO 10 d1 d2 (s0 :: s1 :: s2 :: s3 :: s4 :: s5 :: s6 :: s7 :: s8 :: s9 :: .val d :: l) μ Q) (d2 (s0 :: s1 :: s2 :: s3 :: s4 :: s5 :: s6 :: s7 :: s8 :: s9 :: .val d :: l) μ Q) := ⟨fun h => ov_10 h⟩
instance st_to_10 {d1 d2 : DT} {R : Bool → Ss → Mem → Prop} {s0 s1 s2 s3 s4 s5 s6 s7 s8 s9 : SL} {m : MO} {l : Ss} : Step (dOT 10 d1 d2 (s0 :: s1 :: s2 :: s3 :: s4 :: s5 :: s6 :: s7 :: s8 :: s9 :: .own m :: l) μ R) (d1 (s0 :: s1 :: s2 :: s3 :: s4 :: s5 :: s6 :: s7 :: s8 :: s9 :: .own m :: l) μ R) := ⟨fun h => to_10 h⟩
instance st_tv_10 {d1 d2 : DT} {R : Bool → Ss → Mem → Prop} {s0 s1 s2 s3 s4 s5 s6 s7 s8 s9 : SL} {d : D} {l : Ss} : Step (dOT 10 d1 d2 (s0 :: s1 :: s2 :: s3 :: s4 :: s5 :: s6 :: s7 :: s8 :: s9 :: .val d :: l) μ R) (d2 (s0 :: s1 :: s2 :: s3 :: s4 :: s5 :: s6 :: s7 :: s8 :: s9 :: .val d :: l) μ R) := ⟨fun h => tv_10 h⟩
instance st_lo_10 {s0 s1 s2 s3 s4 s5 s6 s7 s8 s9 : SL} {a : List D} {l : Ss} : Step (dLenO 10 (s0 :: s1 :: s2 :: s3 :: s4 :: s5 :: s6 :: s7 :: s8 :: s9 :: .own (.lst a) :: l) μ Q) (Q (.int a.length) (s0 :: s1 :: s2 :: s3 :: s4 :: s5 :: s6 :: s7 :: s8 :: s9 :: .own (.lst a) :: l) μ) := ⟨fun h => lo_10 h⟩
instance st_so_10 {dl dh : DO} {s0 s1 s2 s3 s4 s5 s6 s7 s8 s9 : SL} {m : MO} {l : Ss} : Step (dSlO 10 dl dh (s0 :: s1 :: s2 :: s3 :: s4 :: s5 :: s6 :: s7 :: s8 :: s9 :: .own m :: l) μ Q) (dl (s0 :: s1 :: s2 :: s3 :: s4 :: s5 :: s6 :: s7 :: s8 :: s9 :: .own m :: l) μ fun lo δ1 μ1 => dh δ1 μ1 fun hi δ2 μ2 => SlO 10 lo hi δ2 μ2 Q) := ⟨fun h => so_10 h⟩
instance st_se_10 {s0 s1 s2 s3 s4 s5 s6 s7 s8 s9 : SL} {a : List D} {lo hi : Option Int} {l : Ss} : Step (SlO 10 lo hi (s0 :: s1 :: s2 :: s3 :: s4 :: s5 :: s6 :: s7 :: s8 :: s9 :: .own (.lst a) :: l) μ Q) (Q (.lst (cutD a lo hi)) (s0 :: s1 :: s2 :: s3 :: s4 :: s5 :: s6 :: s7 :: s8 :: s9 :: .own (.lst a) :: l) μ) := ⟨fun h => se_10 h⟩
instance st_xo_10 {db : DE} {s0 s1 s2 s3 s4 s5 s6 s7 s8 s9 : SL} {m : MO} {l : Ss} : Step (dIxO 10 db (s0 :: s1 :: s2 :: s3 :: s4 :: s5 :: s6 :: s7 :: s8 :: s9 :: .own m :: l) μ Q) (db (s0 :: s1 :: s2 :: s3 :: s4 :: s5 :: s6 :: s7 :: s8 :: s9 :: .own m :: l) μ fun y δ1 μ1 => IxO 10 y δ1 μ1 Q) := ⟨fun h => xo_10 h⟩
instance st_xe_10 {s0 s1 s2 s3 s4 s5 s6 s7 s8 s9 : SL} {a : List D} {y : D} {l : Ss} : Step (IxO 10 y (s0 :: s1 :: s2 :: s3 :: s4 :: s5 :: s6 :: s7 :: s8 :: s9 :: .own (.lst a) :: l) μ Q) (rdIx (.lst a) y μ fun d μ1 => Q d (s0 :: s1 :: s2 :: s3 :: s4 :: s5 :: s6 :: s7 :: s8 :: s9 :: .own (.lst a) :: l) μ1) := ⟨fun h => xe_10 h⟩
instance st_oo_11 {d1 d2 : DE} {s0 s1 s2 s3 s4 s5 s6 s7 s8 s9 s10 : SL} {m : MO} {l : Ss} : Step (dOO 11 d1 d2 (s0 :: s1 :: s2 :: s3 :: s4 :: s5 :: s6 :: s7 :: s8 :: s9 :: s10 :: .own m :: l) μ Q) (d1 (s0 :: s1 :: s2 :: s3 :: s4 :: s5 :: s6 :: s7 :: s8 :: s9 :: s10 :: .own m :: l) μ Q) := ⟨fun h => oo_11 h⟩
instance st_ov_11 {d1 d2 : DE} {s0 s1 s2 s3 s4 s5 s6 s7 s8 s9 s10 : SL} {d : D} {l : Ss} : Step (dOO 11 d1 d2 (s0 :: s1 :: s2 :: s3 :: s4 :: s5 :: s6 :: s7 :: s8 :: s9 :: s10 :: .val d :: l) μ Q) (d2 (s0 :: s1 :: s2 :: s3 :: s4 :: s5 :: s6 :: s7 :: s8 :: s9 :: s10 :: .val d :: l) μ Q) := ⟨fun h => ov_11 h⟩
instance st_to_11 {d1 d2 : DT} {R : Bool → Ss → Mem → Prop} {s0 s1 s2 s3 s4 s5 s6 s7 s8 s9 s10 : SL} {m : MO} {l : Ss} : Step (dOT 11 d1 d2 (s0 :: s1 :: s2 :: s3 :: s4 :: s5 :: s6 :: s7 :: s8 :: s9 :: s10 :: .own m :: l) μ R) (d1 (s0 :: s1 :: s2 :: s3 :: s4 :: s5 :: s6 :: s7 :: s8 :: s9 :: s10 :: .own m :: l) μ R) := ⟨fun h => to_11 h⟩
instance st_tv_11 {d1 d2 : DT} {R : Bool → Ss → Mem → Prop} {s0 s1 s2 s3 s4 s5 s6 s7 s8 s9 s10 : SL} {d : D} {l : Ss} : Step (dOT 11 d1 d2 (s0 :: s1 :: s2 :: s3 :: s4 :: s5 :: s6 :: s7 :: s8 :: s9 :: s10 :: .val d :: l) μ R) (d2 (s0 :: s1 :: s2 :: s3 :: s4 :: s5 :: s6 :: s7 :: s8 :: s9 :: s10 :: .val d :: l) μ R) := ⟨fun h => tv_11 h⟩
instance st_lo_11 {s0 s1 s2 s3 s4 s5 s6 s7 s8 s9 s10 : SL} {a : List D} {l : Ss} : Step (dLenO 11 (s0 :: s1 :: s2 :: s3 :: s4 :: s5 :: s6 :: s7 :: s8 :: s9 :: s10 :: .own (.lst a) :: l) μ Q) (Q (.int a.length) (s0 :: s1 :: s2 :: s3 :: s4 :: s5 :: s6 :: s7 :: s8 :: s9 :: s10 :: .own (.lst a) :: l) μ) := ⟨fun h => lo_11 h⟩
instance st_so_11 {dl dh : DO} {s0 s1 s2 s3 s4 s5 s6 s7 s8 s9 s10 : SL} {m : MO} {l : Ss} : Step (dSlO 11 dl dh (s0 :: s1 :: s2 :: s3 :: s4 :: s5 :: s6 :: s7 :: s8 :: s9 :: s10 :: .own m :: l) μ Q) (dl (s0 :: s1 :: s2 :: s3 :: s4 :: s5 :: s6 :: s7 :: s8 :: s9 :: s10 :: .own m :: l) μ fun lo δ1 μ1 => dh δ1 μ1 fun hi δ2 μ2 => SlO 11 lo hi δ2 μ2 Q) := ⟨fun h => so_11 h⟩
instance st_se_11 {s0 s1 s2 s3 s4 s5 s6 s7 s8 s9 s10 : SL} {a : List D} {lo hi : Option Int} {l : Ss} : Step (SlO 11 lo hi (s0 :: s1 :: s2 :: s3 :: s4 :: s5 :: s6 :: s7 :: s8 :: s9 :: s10 :: .own (.lst a) :: l) μ Q) (Q (.lst (cutD a lo hi)) (s0 :: s1 :: s2 :: s3 :: s4 :: s5 :: s6 :: s7 :: s8 :: s9 :: s10 :: .own (.lst a) :: l) μ) := ⟨fun h => se_11 h⟩
instance st_xo_11 {db : DE} {s0 s1 s2 s3 s4 s5 s6 s7 s8 s9 s10 : SL} {m : MO} {l : Ss} : Step (dIxO 11 db (s0 :: s1 :: s2 :: s3 :: s4 :: s5 :: s6 :: s7 :: s8 :: s9 :: s10 :: .own m :: l) μ Q) (db (s0 :: s1 :: s2 :: s3 :: s4 :: s5 :: s6 :: s7 :: s8 :: s9 :: s10 :: .own m :: l) μ fun y δ1 μ1 => IxO 11 y δ1 μ1 Q) := ⟨fun h => xo_11 h⟩
instance st_xe_11 {s0 s1 s2 s3 s4 s5 s6 s7 s8 s9 s10 : SL} {a : List D} {y : D} {l : Ss} : Step (IxO 11 y (s0 :: s1 :: s2 :: s3 :: s4 :: s5 :: s6 :: s7 :: s8 :: s9 :: s10 :: .own (.lst a) :: l) μ Q) (rdIx (.lst a) y μ fun d μ1 => Q d (s0 :: s1 :: s2 :: s3 :: s4 :: s5 :: s6 :: s7 :: s8 :: s9 :: s10 :: .own (.lst a) :: l) μ1) := ⟨fun h => xe_11 h⟩
instance st_lm_0 {lm : LM} {da : DA} {a : List D} {l : Ss} : Step (dLMO 0 lm da (.own (.lst a) :: l) μ Q) (da (.own (.lst a) :: l) μ fun ds δ1 μ1 => LmNx lm 0 ds δ1 μ1 Q) := ⟨fun h => lm_0 h⟩
instance st_lme_0 {lm : LM} {ds : List D} {a : List D} {l : Ss} : Step (LmNx lm 0 ds (.own (.lst a) :: l) μ Q) (lm ds a μ fun d l2 => Q d (.own (.lst l2) :: l) μ) := ⟨fun h => lme_0 h⟩
instance st_eo_0 {neg : Bool} {db : DE} {a : List D} {l : Ss} : Step (dEqO neg 0 db (.own (.lst a) :: l) μ Q) (db (.own (.lst a) :: l) μ fun y δ1 μ1 => EqNx neg 0 y δ1 μ1 Q) := ⟨fun h => eo_0 h⟩
instance st_eoe_0 {neg : Bool} {y : D} {a : List D} {l : Ss} : Step (EqNx neg 0 y (.own (.lst a) :: l) μ Q) (EqV neg (.lst a) y μ fun d => Q d (.own (.lst a) :: l) μ) := ⟨fun h => eoe_0 h⟩
instance st_lm_1 {lm : LM} {da : DA} {s0 : SL} {a : List D} {l : Ss} : Step (dLMO 1 lm da (s0 :: .own (.lst a) :: l) μ Q) (da (s0 :: .own (.lst a) :: l) μ fun ds δ1 μ1 => LmNx lm 1 ds δ1 μ1 Q) := ⟨fun h => lm_1 h⟩
instance st_lme_1 {lm : LM} {ds : List D} {s0 : SL} {a : List D} {l : Ss} : Step (LmNx lm 1 ds (s0 :: .own (.lst a) :: l) μ Q) (lm ds a μ fun d l2 => Q d (s0 :: .own (.lst l2) :: l) μ) := ⟨fun h => lme_1 h⟩
instance st_eo_1 {neg : Bool} {db : DE} {s0 : SL} {a : List D} {l : Ss} : Step (dEqO neg 1 db (s0 :: .own (.lst a) :: l) μ Q) (db (s0 :: .own (.lst a) :: l) μ fun y δ1 μ1 => EqNx neg 1 y δ1 μ1 Q) := ⟨fun h => eo_1 h⟩
instance st_eoe_1 {neg : Bool} {y : D} {s0 : SL} {a : List D} {l : Ss} : Step (EqNx neg 1 y (s0 :: .own (.lst a) :: l) μ Q) (EqV neg (.lst a) y μ fun d => Q d (s0 :: .own (.lst a) :: l) μ) := ⟨fun h => eoe_1 h⟩
instance st_lm_2 {lm : LM} {da : DA} {s0 s1 : SL} {a : List D} {l : Ss} : Step (dLMO 2 lm da (s0 :: s1 :: .own (.lst a) :: l) μ Q) (da (s0 :: s1 :: .own (.lst a) :: l) μ fun ds δ1 μ1 => LmNx lm 2 ds δ1 μ1 Q) := ⟨fun h => lm_2 h⟩
instance st_lme_2 {lm : LM} {ds : List D} {s0 s1 : SL} {a : List D} {l : Ss} : Step (LmNx lm 2 ds (s0 :: s1 :: .own (.lst a) :: l) μ Q) (lm ds a μ fun d l2 => Q d (s0 :: s1 :: .own (.lst l2) :: l) μ) := ⟨fun h => lme_2 h⟩
instance st_eo_2 {neg : Bool} {db : DE} {s0 s1 : SL} {a : List D} {l : Ss} : Step (dEqO neg 2 db (s0 :: s1 :: .own (.lst a) :: l) μ Q) (db (s0 :: s1 :: .own (.lst a) :: l) μ fun y δ1 μ1 => EqNx neg 2 y δ1 μ1 Q) := ⟨fun h => eo_2 h⟩
instance st_eoe_2 {neg : Bool} {y : D} {s0 s1 : SL} {a : List D} {l : Ss} : Step (EqNx neg 2 y (s0 :: s1 :: .own (.lst a) :: l) μ Q) (EqV neg (.lst a) y μ fun d => Q d (s0 :: s1 :: .own (.lst a) :: l) μ) := ⟨fun h => eoe_2 h⟩
instance st_lm_3 {lm : LM} {da : DA} {s0 s1 s2 : SL} {a : List D} {l : Ss} : Step (dLMO 3 lm da (s0 :: s1 :: s2 :: .own (.lst a) :: l) μ Q) (da (s0 :: s1 :: s2 :: .own (.lst a) :: l) μ fun ds δ1 μ1 => LmNx lm 3 ds δ1 μ1 Q) := ⟨fun h => lm_3 h⟩
instance st_lme_3 {lm : LM} {ds : List D} {s0 s1 s2 : SL} {a : List D} {l : Ss} : Step (LmNx lm 3 ds (s0 :: s1 :: s2 :: .own (.lst a) :: l) μ Q) (lm ds a μ fun d l2 => Q d (s0 :: s1 :: s2 :: .own (.lst l2) :: l) μ) := ⟨fun h => lme_3 h⟩
instance st_eo_3 {neg : Bool} {db : DE} {s0 s1 s2 : SL} {a : List D} {l : Ss} : Step (dEqO neg 3 db (s0 :: s1 :: s2 :: .own (.lst a) :: l) μ Q) (db (s0 :: s1 :: s2 :: .own (.lst a) :: l) μ fun y δ1 μ1 => EqNx neg 3 y δ1 μ1 Q) := ⟨fun h => eo_3 h⟩
instance st_eoe_3 {neg : Bool} {y : D} {s0 s1 s2 : SL} {a : List D} {l : Ss} : Step (EqNx neg 3 y (s0 :: s1 :: s2 :: .own (.lst a) :: l) μ Q) (EqV neg (.lst a) y μ fun d => Q d (s0 :: s1 :: s2 :: .own (.lst a) :: l) μ) := ⟨fun h => eoe_3 h⟩
instance st_lm_4 {lm : LM} {da : DA} {s0 s1 s2 s3 : SL} {a : List D} {l : Ss} : Step (dLMO 4 lm da (s0 :: s1 :: s2 :: s3 :: .own (.lst a) :: l) μ Q) (da (s0 :: s1 :: s2 :: s3 :: .own (.lst a) :: l) μ fun ds δ1 μ1 => LmNx lm 4 ds δ1 μ1 Q) := ⟨fun h => lm_4 h⟩
instance st_lme_4 {lm : LM} {ds : List D} {s0 s1 s2 s3 : SL} {a : List D} {l : Ss} : Step (LmNx lm 4 ds (s0 :: s1 :: s2 :: s3 :: .own (.lst a) :: l) μ Q) (lm ds a μ fun d l2 => Q d (s0 :: s1 :: s2 :: s3 :: .own (.lst l2) :: l) μ) := ⟨fun h => lme_4 h⟩
instance st_eo_4 {neg : Bool} {db : DE} {s0 s1 s2 s3 : SL} {a : List D} {l : Ss} : Step (dEqO neg 4 db (s0 :: s1 :: s2 :: s3 :: .own (.lst a) :: l) μ Q) (db (s0 :: s1 :: s2 :: s3 :: .own (.lst a) :: l) μ fun y δ1 μ1 => EqNx neg 4 y δ1 μ1 Q) := ⟨fun h => eo_4 h⟩
instance st_eoe_4 {neg : Bool} {y : D} {s0 s1 s2 s3 : SL} {a : List D} {l : Ss} : Step (EqNx neg 4 y (s0 :: s1 :: s2 :: s3 :: .own (.lst a) :: l) μ Q) (EqV neg (.lst a) y μ fun d => Q d (s0 :: s1 :: s2 :: s3 :: .own (.lst a) :: l) μ) := ⟨fun h => eoe_4 h⟩
instance st_lm_5 {lm : LM} {da : DA} {s0 s1 s2 s3 s4 : SL} {a : List D} {l : Ss} : Step (dLMO 5 lm da (s0 :: s1 :: s2 :: s3 :: s4 :: .own (.lst a) :: l) μ Q) (da (s0 :: s1 :: s2 :: s3 :: s4 :: .own (.lst a) :: l) μ fun ds δ1 μ1 => LmNx lm 5 ds δ1 μ1 Q) := ⟨fun h => lm_5 h⟩
instance st_lme_5 {lm : LM} {ds : List D} {s0 s1 s2 s3 s4 : SL} {a : List D} {l : Ss} : Step (LmNx lm 5 ds (s0 :: s1 :: s2 :: s3 :: s4 :: .own (.lst a) :: l) μ Q) (lm ds a μ fun d l2 => Q d (s0 :: s1 :: s2 :: s3 :: s4 :: .own (.lst l2) :: l) μ) := ⟨fun h => lme_5 h⟩
instance st_eo_5 {neg : Bool} {db : DE} {s0 s1 s2 s3 s4 : SL} {a : List D} {l : Ss} : Step (dEqO neg 5 db (s0 :: s1 :: s2 :: s3 :: s4 :: .own (.lst a) :: l) μ Q) (db (s0 :: s1 :: s2 :: s3 :: s4 :: .own (.lst a) :: l) μ fun y δ1 μ1 => EqNx neg 5 y δ1 μ1 Q) := ⟨fun h => eo_5 h⟩
instance st_eoe_5 {neg : Bool} {y : D} {s0 s1 s2 s3 s4 : SL} {a : List D} {l : Ss} : Step (EqNx neg 5 y (s0 :: s1 :: s2 :: s3 :: s4 :: .own (.lst a) :: l) μ Q) (EqV neg (.lst a) y μ fun d => Q d (s0 :: s1 :: s2 :: s3 :: s4 :: .own (.lst a) :: l) μ) := ⟨fun h => eoe_5 h⟩
instance st_lm_6 {lm : LM} {da : DA} {s0 s1 s2 s3 s4 s5 : SL} {a : List D} {l : Ss} : Step (dLMO 6 lm da (s0 :: s1 :: s2 :: s3 :: s4 :: s5 :: .own (.lst a) :: l) μ Q) (da (s0 :: s1 :: s2 :: s3 :: s4 :: s5 :: .own (.lst a) :: l) μ fun ds δ1 μ1 => LmNx lm 6 ds δ1 μ1 Q) := ⟨fun h => lm_6 h⟩
instance st_lme_6 {lm : LM} {ds : List D} {s0 s1 s2 s3 s4 s5 : SL} {a : List D} {l : Ss} : Step (LmNx lm 6 ds (s0 :: s1 :: s2 :: s3 :: s4 :: s5 :: .own (.lst a) :: l) μ Q) (lm ds a μ fun d l2 => Q d (s0 :: s1 :: s2 :: s3 :: s4 :: s5 :: .own (.lst l2) :: l) μ) := ⟨fun h => lme_6 h⟩
instance st_eo_6 {neg : Bool} {db : DE} {s0 s1 s2 s3 s4 s5 : SL} {a : List D} {l : Ss} : Step (dEqO neg 6 db (s0 :: s1 :: s2 :: s3 :: s4 :: s5 :: .own (.lst a) :: l) μ Q) (db (s0 :: s1 :: s2 :: s3 :: s4 :: s5 :: .own (.lst a) :: l) μ fun y δ1 μ1 => EqNx neg 6 y δ1 μ1 Q) := ⟨fun h => eo_6 h⟩
instance st_eoe_6 {neg : Bool} {y : D} {s0 s1 s2 s3 s4 s5 : SL} {a : List D} {l : Ss} : Step (EqNx neg 6 y (s0 :: s1 :: s2 :: s3 :: s4 :: s5 :: .own (.lst a) :: l) μ Q) (EqV neg (.lst a) y μ fun d => Q d (s0 :: s1 :: s2 :: s3 :: s4 :: s5 :: .own (.lst a) :: l) μ) := ⟨fun h => eoe_6 h⟩
instance st_lm_7 {lm : LM} {da : DA} {s0 s1 s2 s3 s4 s5 s6 : SL} {a : List D} {l : Ss} : Step (dLMO 7 lm da (s0 :: s1 :: s2 :: s3 :: s4 :: s5 :: s6 :: .own (.lst a) :: l) μ Q) (da (s0 :: s1 :: s2 :: s3 :: s4 :: s5 :: s6 :: .own (.lst a) :: l) μ fun ds δ1 μ1 => LmNx lm 7 ds δ1 μ1 Q) := ⟨fun h => lm_7 h⟩
instance st_lme_7 {lm : LM} {ds : List D} {s0 s1 s2 s3 s4 s5 s6 : SL} {a : List D} {l : Ss} : Step (LmNx lm 7 ds (s0 :: s1 :: s2 :: s3 :: s4 :: s5 :: s6 :: .own (.lst a) :: l) μ Q) (lm ds a μ fun d l2 => Q d (s0 :: s1 :: s2 :: s3 :: s4 :: s5 :: s6 :: .own (.lst l2) :: l) μ) := ⟨fun h => lme_7 h⟩
instance st_eo_7 {neg : Bool} {db : DE} {s0 s1 s2 s3 s4 s5 s6 : SL} {a : List D} {l : Ss} : Step (dEqO neg 7 db (s0 :: s1 :: s2 :: s3 :: s4 :: s5 :: s6 :: .own (.lst a) :: l) μ Q) (db (s0 :: s1 :: s2 :: s3 :: s4 :: s5 :: s6 :: .own (.lst a) :: l) μ fun y δ1 μ1 => EqNx neg 7 y δ1 μ1 Q) := ⟨fun h => eo_7 h⟩
instance st_eoe_7 {neg : Bool} {y : D} {s0 s1 s2 s3 s4 s5 s6 : SL} {a : List D} {l : Ss} : Step (EqNx neg 7 y (s0 :: s1 :: s2 :: s3 :: s4 :: s5 :: s6 :: .own (.lst a) :: l) μ Q) (EqV neg (.lst a) y μ fun d => Q d (s0 :: s1 :: s2 :: s3 :: s4 :: s5 :: s6 :: .own (.lst a) :: l) μ) := ⟨fun h => eoe_7 h⟩
instance st_lm_8 {lm : LM} {da : DA} {s0 s1 s2 s3 s4 s5 s6 s7 : SL} {a : List D} {l : Ss} : Step (dLMO 8 lm da (s0 :: s1 :: s2 :: s3 :: s4 :: s5 :: s6 :: s7 :: .own (.lst a) :: l) μ Q) (da (s0 :: s1 :: s2 :: s3 :: s4 :: s5 :: s6 :: s7 :: .own (.lst a) :: l) μ fun ds δ1 μ1 => LmNx lm 8 ds δ1 μ1 Q) := ⟨fun h => lm_8 h⟩
instance st_lme_8 {lm : LM} {ds : List D} {s0 s1 s2 s3 s4 s5 s6 s7 : SL} {a : List D} {l : Ss} : Step (LmNx lm 8 ds (s0 :: s1 :: s2 :: s3 :: s4 :: s5 :: s6 :: s7 :: .own (.lst a) :: l) μ Q) (lm ds a μ fun d l2 => Q d (s0 :: s1 :: s2 :: s3 :: s4 :: s5 :: s6 :: s7 :: .own (.lst l2) :: l) μ) := ⟨fun h => lme_8 h⟩
instance st_eo_8 {neg : Bool} {db : DE} {s0 s1 s2 s3 s4 s5 s6 s7 : SL} {a : List D} {l : Ss} : Step (dEqO neg 8 db (s0 :: s1 :: s2 :: s3 :: s4 :: s5 :: s6 :: s7 :: .own (.lst a) :: l) μ Q) (db (s0 :: s1 :: s2 :: s3 :: s4 :: s5 :: s6 :: s7 :: .own (.lst a) :: l) μ fun y δ1 μ1 => EqNx neg 8 y δ1 μ1 Q) := ⟨fun h => eo_8 h⟩
instance st_eoe_8 {neg : Bool} {y : D} {s0 s1 s2 s3 s4 s5 s6 s7 : SL} {a : List D} {l : Ss} : Step (EqNx neg 8 y (s0 :: s1 :: s2 :: s3 :: s4 :: s5 :: s6 :: s7 :: .own (.lst a) :: l) μ Q) (EqV neg (.lst a) y μ fun d => Q d (s0 :: s1 :: s2 :: s3 :: s4 :: s5 :: s6 :: s7 :: .own (.lst a) :: l) μ) := ⟨fun h => eoe_8 h⟩
instance st_lm_9 {lm : LM} {da : DA} {s0 s1 s2 s3 s4 s5 s6 s7 s8 : SL} {a : List D} {l : Ss} : Step (dLMO 9 lm da (s0 :: s1 :: s2 :: s3 :: s4 :: s5 :: s6 :: s7 :: s8 :: .own (.lst a) :: l) μ Q) (da (s0 :: s1 :: s2 :: s3 :: s4 :: s5 :: s6 :: s7 :: s8 :: .own (.lst a) :: l) μ fun ds δ1 μ1 => LmNx lm 9 ds δ1 μ1 Q) := ⟨fun h => lm_9 h⟩
instance st_lme_9 {lm : LM} {ds : List D} {s0 s1 s2 s3 s4 s5 s6 s7 s8 : SL} {a : List D} {l : Ss} : Step (LmNx lm 9 ds (s0 :: s1 :: s2 :: s3 :: s4 :: s5 :: s6 :: s7 :: s8 :: .own (.lst a) :: l) μ Q) (lm ds a μ fun d l2 => Q d (s0 :: s1 :: s2 :: s3 :: s4 :: s5 :: s6 :: s7 :: s8 :: .own (.lst l2) :: l) μ) := ⟨fun h => lme_9 h⟩
instance st_eo_9 {neg : Bool} {db : DE} {s0 s1 s2 s3 s4 s5 s6 s7 s8 : SL} {a : List D} {l : Ss} : Step (dEqO neg 9 db (s0 :: s1 :: s2 :: s3 :: s4 :: s5 :: s6 :: s7 :: s8 :: .own (.lst a) :: l) μ Q) (db (s0 :: s1 :: s2 :: s3 :: s4 :: s5 :: s6 :: s7 :: s8 :: .own (.lst a) :: l) μ fun y δ1 μ1 => EqNx neg 9 y δ1 μ1 Q) := ⟨fun h => eo_9 h⟩
instance st_eoe_9 {neg : Bool} {y : D} {s0 s1 s2 s3 s4 s5 s6 s7 s8 : SL} {a : List D} {l : Ss} : Step (EqNx neg 9 y (s0 :: s1 :: s2 :: s3 :: s4 :: s5 :: s6 :: s7 :: s8 :: .own (.lst a) :: l) μ Q) (EqV neg (.lst a) y μ fun d => Q d (s0 :: s1 :: s2 :: s3 :: s4 :: s5 :: s6 :: s7 :: s8 :: .own (.lst a) :: l) μ) := ⟨fun h => eoe_9 h⟩
instance st_lm_10 {lm : LM} {da : DA} {s0 s1 s2 s3 s4 s5 s6 s7 s8 s9 : SL} {a : List D} {l : Ss} : Step (dLMO 10 lm da (s0 :: s1 :: s2 :: s3 :: s4 :: s5 :: s6 :: s7 :: s8 :: s9 :: .own (.lst a) :: l) μ Q) (da (s0 :: s1 :: s2 :: s3 :: s4 :: s5 :: s6 :: s7 :: s8 :: s9 :: .own (.lst a) :: l) μ fun ds δ1 μ1 => LmNx lm 10 ds δ1 μ1 Q) := ⟨fun h => lm_10 h⟩
instance st_lme_10 {lm : LM} {ds : List D} {s0 s1 s2 s3 s4 s5 s6 s7 s8 s9 : SL} {a : List D} {l : Ss} : Step (LmNx lm 10 ds (s0 :: s1 :: s2 :: s3 :: s4 :: s5 :: s6 :: s7 :: s8 :: s9 :: .own (.lst a) :: l) μ Q) (lm ds a μ fun d l2 => Q d (s0 :: s1 :: s2 :: s3 :: s4 :: s5 :: s6 :: s7 :: s8 :: s9 :: .own (.lst l2) :: l) μ) := ⟨fun h => lme_10 h⟩
instance st_eo_10 {neg : Bool} {db : DE} {s0 s1 s2 s3 s4 s5 s6 s7 s8 s9 : SL} {a : List D} {l : Ss} : Step (dEqO neg 10 db (s0 :: s1 :: s2 :: s3 :: s4 :: s5 :: s6 :: s7 :: s8 :: s9 :: .own (.lst a) :: l) μ Q) (db (s0 :: s1 :: s2 :: s3 :: s4 :: s5 :: s6 :: s7 :: s8 :: s9 :: .own (.lst a) :: l) μ fun y δ1 μ1 => EqNx neg 10 y δ1 μ1 Q) := ⟨fun h => eo_10 h⟩
instance st_eoe_10 {neg : Bool} {y : D} {s0 s1 s2 s3 s4 s5 s6 s7 s8 s9 : SL} {a : List D} {l : Ss} : Step (EqNx neg 10 y (s0 :: s1 :: s2 :: s3 :: s4 :: s5 :: s6 :: s7 :: s8 :: s9 :: .own (.lst a) :: l) μ Q) (EqV neg (.lst a) y μ fun d => Q d (s0 :: s1 :: s2 :: s3 :: s4 :: s5 :: s6 :: s7 :: s8 :: s9 :: .own (.lst a) :: l) μ) := ⟨fun h => eoe_10 h⟩
instance st_lm_11 {lm : LM} {da : DA} {s0 s1 s2 s3 s4 s5 s6 s7 s8 s9 s10 : SL} {a : List D} {l : Ss} : Step (dLMO 11 lm da (s0 :: s1 :: s2 :: s3 :: s4 :: s5 :: s6 :: s7 :: s8 :: s9 :: s10 :: .own (.lst a) :: l) μ Q) (da (s0 :: s1 :: s2 :: s3 :: s4 :: s5 :: s6 :: s7 :: s8 :: s9 :: s10 :: .own (.lst a) :: l) μ fun ds δ1 μ1 => LmNx lm 11 ds δ1 μ1 Q) := ⟨fun h => lm_11 h⟩
instance st_lme_11 {lm : LM} {ds : List D} {s0 s1 s2 s3 s4 s5 s6 s7 s8 s9 s10 : SL} {a : List D} {l : Ss} : Step (LmNx lm 11 ds (s0 :: s1 :: s2 :: s3 :: s4 :: s5 :: s6 :: s7 :: s8 :: s9 :: s10 :: .own (.lst a) :: l) μ Q) (lm ds a μ fun d l2 => Q d (s0 :: s1 :: s2 :: s3 :: s4 :: s5 :: s6 :: s7 :: s8 :: s9 :: s10 :: .own (.lst l2) :: l) μ) := ⟨fun h => lme_11 h⟩
instance st_eo_11 {neg : Bool} {db : DE} {s0 s1 s2 s3 s4 s5 s6 s7 s8 s9 s10 : SL} {a : List D} {l : Ss} : Step (dEqO neg 11 db (s0 :: s1 :: s2 :: s3 :: s4 :: s5 :: s6 :: s7 :: s8 :: s9 :: s10 :: .own (.lst a) :: l) μ Q) (db (s0 :: s1 :: s2 :: s3 :: s4 :: s5 :: s6 :: s7 :: s8 :: s9 :: s10 :: .own (.lst a) :: l) μ fun y δ1 μ1 => EqNx neg 11 y δ1 μ1 Q) := ⟨fun h => eo_11 h⟩
instance st_eoe_11 {neg : Bool} {y : D} {s0 s1 s2 s3 s4 s5 s6 s7 s8 s9 s10 : SL} {a : List D} {l : Ss} : Step (EqNx neg 11 y (s0 :: s1 :: s2 :: s3 :: s4 :: s5 :: s6 :: s7 :: s8 :: s9 :: s10 :: .own (.lst a) :: l) μ Q) (EqV neg (.lst a) y μ fun d => Q d (s0 :: s1 :: s2 :: s3 :: s4 :: s5 :: s6 :: s7 :: s8 :: s9 :: s10 :: .own (.lst a) :: l) μ) := ⟨fun h => eoe_11 h⟩
instance st_ixl_0 {d : D} {r : List D} : Step (rdIx (.lst (d :: r)) (.int 0) μ QM') (QM' d μ) := ⟨fun h => ixl_0 h⟩
instance st_ixt_0 {d : D} {r : List D} : Step (rdIx (.tup (d :: r)) (.int 0) μ QM') (QM' d μ) := ⟨fun h => ixt_0 h⟩
instance st_ixl_1 {b0 : D} {d : D} {r : List D} : Step (rdIx (.lst (b0 :: d :: r)) (.int 1) μ QM') (QM' d μ) := ⟨fun h => ixl_1 h⟩
instance st_ixt_1 {b0 : D} {d : D} {r : List D} : Step (rdIx (.tup (b0 :: d :: r)) (.int 1) μ QM') (QM' d μ) := ⟨fun h => ixt_1 h⟩
instance st_ixl_2 {b0 b1 : D} {d : D} {r : List D} : Step (rdIx (.lst (b0 :: b1 :: d :: r)) (.int 2) μ QM') (QM' d μ) := ⟨fun h => ixl_2 h⟩
instance st_ixt_2 {b0 b1 : D} {d : D} {r : List D} : Step (rdIx (.tup (b0 :: b1 :: d :: r)) (.int 2) μ QM') (QM' d μ) := ⟨fun h => ixt_2 h⟩
instance st_ixl_3 {b0 b1 b2 : D} {d : D} {r : List D} : Step (rdIx (.lst (b0 :: b1 :: b2 :: d :: r)) (.int 3) μ QM') (QM' d μ) := ⟨fun h => ixl_3 h⟩
instance st_ixt_3 {b0 b1 b2 : D} {d : D} {r : List D} : Step (rdIx (.tup (b0 :: b1 :: b2 :: d :: r)) (.int 3) μ QM') (QM' d μ) := ⟨fun h => ixt_3 h⟩
instance st_ixl_4 {b0 b1 b2 b3 : D} {d : D} {r : List D} : Step (rdIx (.lst (b0 :: b1 :: b2 :: b3 :: d :: r)) (.int 4) μ QM') (QM' d μ) := ⟨fun h => ixl_4 h⟩
instance st_ixt_4 {b0 b1 b2 b3 : D} {d : D} {r : List D} : Step (rdIx (.tup (b0 :: b1 :: b2 :: b3 :: d :: r)) (.int 4) μ QM') (QM' d μ) := ⟨fun h => ixt_4 h⟩
instance st_ixl_5 {b0 b1 b2 b3 b4 : D} {d : D} {r : List D} : Step (rdIx (.lst (b0 :: b1 :: b2 :: b3 :: b4 :: d :: r)) (.int 5) μ QM') (QM' d μ) := ⟨fun h => ixl_5 h⟩
instance st_ixt_5 {b0 b1 b2 b3 b4 : D} {d : D} {r : List D} : Step (rdIx (.tup (b0 :: b1 :: b2 :: b3 :: b4 :: d :: r)) (.int 5) μ QM') (QM' d μ) := ⟨fun h => ixt_5 h⟩
instance st_ixl_6 {b0 b1 b2 b3 b4 b5 : D} {d : D} {r : List D} : Step (rdIx (.lst (b0 :: b1 :: b2 :: b3 :: b4 :: b5 :: d :: r)) (.int 6) μ QM') (QM' d μ) := ⟨fun h => ixl_6 h⟩
instance st_ixt_6 {b0 b1 b2 b3 b4 b5 : D} {d : D} {r : List D} : Step (rdIx (.tup (b0 :: b1 :: b2 :: b3 :: b4 :: b5 :: d :: r)) (.int 6) μ QM') (QM' d μ) := ⟨fun h => ixt_6 h⟩
instance st_ixl_7 {b0 b1 b2 b3 b4 b5 b6 : D} {d : D} {r : List D} : Step (rdIx (.lst (b0 :: b1 :: b2 :: b3 :: b4 :: b5 :: b6 :: d :: r)) (.int 7) μ QM') (QM' d μ) := ⟨fun h => ixl_7 h⟩
instance st_ixt_7 {b0 b1 b2 b3 b4 b5 b6 : D} {d : D} {r : List D} : Step (rdIx (.tup (b0 :: b1 :: b2 :: b3 :: b4 :: b5 :: b6 :: d :: r)) (.int 7) μ QM') (QM' d μ) := ⟨fun h => ixt_7 h⟩
instance st_ixl_8 {b0 b1 b2 b3 b4 b5 b6 b7 : D} {d : D} {r : List D} : Step (rdIx (.lst (b0 :: b1 :: b2 :: b3 :: b4 :: b5 :: b6 :: b7 :: d :: r)) (.int 8) μ QM') (QM' d μ) := ⟨fun h => ixl_8 h⟩
instance st_ixt_8 {b0 b1 b2 b3 b4 b5 b6 b7 : D} {d : D} {r : List D} : Step (rdIx (.tup (b0 :: b1 :: b2 :: b3 :: b4 :: b5 :: b6 :: b7 :: d :: r)) (.int 8) μ QM') (QM' d μ) := ⟨fun h => ixt_8 h⟩
instance st_ixl_9 {b0 b1 b2 b3 b4 b5 b6 b7 b8 : D} {d : D} {r : List D} : Step (rdIx (.lst (b0 :: b1 :: b2 :: b3 :: b4 :: b5 :: b6 :: b7 :: b8 :: d :: r)) (.int 9) μ QM') (QM' d μ) := ⟨fun h => ixl_9 h⟩
instance st_ixt_9 {b0 b1 b2 b3 b4 b5 b6 b7 b8 : D} {d : D} {r : List D} : Step (rdIx (.tup (b0 :: b1 :: b2 :: b3 :: b4 :: b5 :: b6 :: b7 :: b8 :: d :: r)) (.int 9) μ QM') (QM' d μ) := ⟨fun h => ixt_9 h⟩
instance st_slt_1 {b0 : D} {r : List D} : Step (rdSl (.tup (b0 :: r)) none (some 1) μ QM') (QM' (.tup [b0]) μ) := ⟨fun h => slt_1 h⟩
instance st_slt_2 {b0 b1 : D} {r : List D} : Step (rdSl (.tup (b0 :: b1 :: r)) none (some 2) μ QM') (QM' (.tup [b0, b1]) μ) := ⟨fun h => slt_2 h⟩
instance st_slt_3 {b0 b1 b2 : D} {r : List D} : Step (rdSl (.tup (b0 :: b1 :: b2 :: r)) none (some 3) μ QM') (QM' (.tup [b0, b1, b2]) μ) := ⟨fun h => slt_3 h⟩
instance st_slt_4 {b0 b1 b2 b3 : D} {r : List D} : Step (rdSl (.tup (b0 :: b1 :: b2 :: b3 :: r)) none (some 4) μ QM') (QM' (.tup [b0, b1, b2, b3]) μ) := ⟨fun h => slt_4 h⟩
instance st_slt_5 {b0 b1 b2 b3 b4 : D} {r : List D} : Step (rdSl (.tup (b0 :: b1 :: b2 :: b3 :: b4 :: r)) none (some 5) μ QM') (QM' (.tup [b0, b1, b2, b3, b4]) μ) := ⟨fun h => slt_5 h⟩
instance st_pw_10_2 : Step (rdPow (.int 10) (.int 2) μ QM') (QM' (.int 100) μ) := ⟨fun h => pw_10_2 h⟩
instance st_pw_10_3 : Step (rdPow (.int 10) (.int 3) μ QM') (QM' (.int 1000) μ) := ⟨fun h => pw_10_3 h⟩
instance st_pw_10_4 : Step (rdPow (.int 10) (.int 4) μ QM') (QM' (.int 10000) μ) := ⟨fun h => pw_10_4 h⟩
instance st_pw_10_5 : Step (rdPow (.int 10) (.int 5) μ QM') (QM' (.int 100000) μ) := ⟨fun h => pw_10_5 h⟩
instance st_pw_10_6 : Step (rdPow (.int 10) (.int 6) μ QM') (QM' (.int 1000000) μ) := ⟨fun h => pw_10_6 h⟩
instance st_pw_10_7 : Step (rdPow (.int 10) (.int 7) μ QM') (QM' (.int 10000000) μ) := ⟨fun h => pw_10_7 h⟩
instance st_pw_10_8 : Step (rdPow (.int 10) (.int 8) μ QM') (QM' (.int 100000000) μ) := ⟨fun h => pw_10_8 h⟩
instance st_pw_10_9 : Step (rdPow (.int 10) (.int 9) μ QM') (QM' (.int 1000000000) μ) := ⟨fun h => pw_10_9 h⟩
instance st_pw_10_10 : Step (rdPow (.int 10) (.int 10) μ QM') (QM' (.int 10000000000) μ) := ⟨fun h => pw_10_10 h⟩
instance st_pw_10_11 : Step (rdPow (.int 10) (.int 11) μ QM') (QM' (.int 100000000000) μ) := ⟨fun h => pw_10_11 h⟩
instance st_pw_10_12 : Step (rdPow (.int 10) (.int 12) μ QM') (QM' (.int 1000000000000) μ) := ⟨fun h => pw_10_12 h⟩
instance st_pw_10_13 : Step (rdPow (.int 10) (.int 13) μ QM') (QM' (.int 10000000000000) μ) := ⟨fun h => pw_10_13 h⟩
instance st_pw_10_14 : Step (rdPow (.int 10) (.int 14) μ QM') (QM' (.int 100000000000000) μ) := ⟨fun h => pw_10_14 h⟩
instance st_pw_10_15 : Step (rdPow (.int 10) (.int 15) μ QM') (QM' (.int 1000000000000000) μ) := ⟨fun h => pw_10_15 h⟩
instance st_pw_10_16 : Step (rdPow (.int 10) (.int 16) μ QM') (QM' (.int 10000000000000000) μ) := ⟨fun h => pw_10_16 h⟩
instance st_pw_10_17 : Step (rdPow (.int 10) (.int 17) μ QM') (QM' (.int 100000000000000000) μ) := ⟨fun h => pw_10_17 h⟩
instance st_pw_10_18 : Step (rdPow (.int 10) (.int 18) μ QM') (QM' (.int 1000000000000000000) μ) := ⟨fun h => pw_10_18 h⟩
instance st_pw_10_19 : Step (rdPow (.int 10) (.int 19) μ QM') (QM' (.int 10000000000000000000) μ) := ⟨fun h => pw_10_19 h⟩
instance st_pw_10_20 : Step (rdPow (.int 10) (.int 20) μ QM') (QM' (.int 100000000000000000000) μ) := ⟨fun h => pw_10_20 h⟩
instance st_pw_10_21 : Step (rdPow (.int 10) (.int 21) μ QM') (QM' (.int 1000000000000000000000) μ) := ⟨fun h => pw_10_21 h⟩
instance st_pw_10_22 : Step (rdPow (.int 10) (.int 22) μ QM') (QM' (.int 10000000000000000000000) μ) := ⟨fun h => pw_10_22 h⟩
instance st_pw_10_24 : Step (rdPow (.int 10) (.int 24) μ QM') (QM' (.int 1000000000000000000000000) μ) := ⟨fun h => pw_10_24 h⟩
instance st_pw_10_25 : Step (rdPow (.int 10) (.int 25) μ QM') (QM' (.int 10000000000000000000000000) μ) := ⟨fun h => pw_10_25 h⟩
instance st_pw_10_27 : Step (rdPow (.int 10) (.int 27) μ QM') (QM' (.int 1000000000000000000000000000) μ) := ⟨fun h => pw_10_27 h⟩
instance st_pw_10_30 : Step (rdPow (.int 10) (.int 30) μ QM') (QM' (.int 1000000000000000000000000000000) μ) := ⟨fun h => pw_10_30 h⟩
end Dl

namespace Dl
open PySem PySem.Spec PyProof.Rows L2
variable {K : PySem.W.Frag} {μ : Mem} {δ : Ss} {Q : QE} {QM' : QM} {nx bk ct : Ss → Mem → Prop} {rt : QM}
theorem take_snoc {α : Type} {l : List α} {i : Nat} {x : α} (h : l[i]? = some x) : l.take (i + 1) = l.take i ++ [x] := by
  rw [List.take_add_one, h]; rfl
theorem split_at {α : Type} {l : List α} {i : Nat} {x : α} (h : l[i]? = some x) : l = l.take i ++ x :: l.drop (i + 1) := by
  obtain ⟨hi, e⟩ := List.getElem?_eq_some_iff.mp h
  rw [← e, List.getElem_cons_drop, List.take_append_drop]
theorem map_at {α β : Type} {f : α → β} {l : List α} {i : Nat} {d : β} (h : (l.map f)[i]? = some d) : ∃ x, l[i]? = some x ∧ d = f x := by
  rw [List.getElem?_map] at h
  cases e : l[i]? with
  | none => rw [e] at h; cases h
  | some x => rw [e] at h; exact ⟨x, rfl, (Option.some.inj h).symm⟩
/-! ### more steps -/
instance st_drw1 {da : DE} : Step (dDrw1 da δ μ Q) (da δ μ fun x δ1 μ1 => ∃ ns, x = .drw ns ∧ ∀ n : Int, 0 ≤ n → Q (.int n) δ1 μ1) := ⟨id⟩
instance st_drw0 {da : DE} : Step (dDrw0 da δ μ Q) (da δ μ fun x δ1 μ1 => ∃ ns, x = .drw ns ∧ (ns.length ≤ 63 → Q (.scr (ns.map .int)) δ1 μ1)) := ⟨id⟩
instance st_exdrw {ns : List Int} {P : List Int → Prop} : Step (∃ k, D.drw ns = .drw k ∧ P k) (P ns) := ⟨fun h => ⟨ns, rfl, h⟩⟩
def SetD (x d : D) (R : Prop) : Prop := ∃ ns m, x = .drw ns ∧ d = .int m ∧ 0 ≤ m ∧ R
instance st_setDrw {da de : DE} : Step (dSetDrw da de ⟨nx, rt, bk, ct⟩ δ μ) (de δ μ fun d δ1 μ1 => da δ1 μ1 fun x δ2 μ2 => SetD x d (nx δ2 μ2)) := ⟨id⟩
instance st_setD {ns : List Int} {m : Int} {R : Prop} : Step (SetD (.drw ns) (.int m) R) (0 ≤ m ∧ R) := ⟨fun h => ⟨ns, m, rfl, rfl, h⟩⟩
def NewD (xs : List D) (R : List Int → Prop) : Prop := ∃ x ns, xs = [x, .int 0] ∧ (x = .scr (ns.map .int) ∨ x = .lst (ns.map .int)) ∧ ns.length ≤ 63 ∧ R ns
instance st_drwNew {da : DA} : Step (dDrwNew da δ μ Q) (da δ μ fun xs δ1 μ1 => NewD xs fun ns => Q (.drw ns) δ1 μ1) := ⟨id⟩
instance st_newDs {ns : List Int} {R : List Int → Prop} : Step (NewD [.scr (ns.map .int), .int 0] R) (ns.length ≤ 63 ∧ R ns) := ⟨fun h => ⟨_, ns, rfl, .inl rfl, h⟩⟩
instance st_newDl {ns : List Int} {R : List Int → Prop} : Step (NewD [.lst (ns.map .int), .int 0] R) (ns.length ≤ 63 ∧ R ns) := ⟨fun h => ⟨_, ns, rfl, .inr rfl, h⟩⟩
instance st_fList {de : DE} {R : MO → Ss → Mem → Prop} : Step (fList de δ μ R) (de δ μ fun x δ1 μ1 => ∃ l, seqOf μ1 x = some l ∧ R (.lst l) δ1 μ1) := ⟨id⟩
instance st_parFF {i j : Nat} {df dg : DF} : Step (dParFF i j df dg ⟨nx, rt, bk, ct⟩ δ μ) (df δ μ fun m δ1 μ1 => dg δ1 μ1 fun n δ2 μ2 => nxSet (nxSet nx j (.own n)) i (.own m) δ2 μ2) := ⟨id⟩
instance st_listM {x : D} {R : QM} : Step (rdListM [x] μ R) (∃ l, seqOf μ x = some l ∧ ∀ p, μ p = none → R (.ref p) (updM μ p (.lst l))) := ⟨fun ⟨l, h⟩ => ⟨x, l, rfl, h⟩⟩
instance st_mulS {z : Str} {n : Int} {R : QM} : Step (rdMulS (.str z) (.int n) μ R) (0 ≤ n ∧ n ≤ 1000 ∧ z.length ≤ 1000 ∧ R (.str (Txt.mul z n)) μ) := ⟨fun h => ⟨z, n, rfl, rfl, h⟩⟩
instance st_isV {EX : List Str} {de : DE} : Step (dIsV EX de δ μ Q) (de δ μ fun x δ1 μ1 => ∃ c, x = .exc c [] false ∧ EX.contains c = true ∧ Q (.bl true) δ1 μ1) := ⟨id⟩
instance (priority := high) st_notN_exc {c : Str} {fs : List (Str × D)} {b : Bool} : Step (rdNotN (.exc c fs b) .non μ QM') (QM' (.bl true) μ) := ⟨fun h => ⟨rfl, h⟩⟩
instance (priority := high) st_isN_exc {c : Str} {fs : List (Str × D)} {b : Bool} : Step (rdIsN (.exc c fs b) .non μ QM') (QM' (.bl false) μ) := ⟨fun h => ⟨rfl, h⟩⟩
instance (priority := high) st_notN_int {i : Int} : Step (rdNotN (.int i) .non μ QM') (QM' (.bl true) μ) := ⟨fun h => ⟨rfl, h⟩⟩
instance (priority := high) st_isN_int {i : Int} : Step (rdIsN (.int i) .non μ QM') (QM' (.bl false) μ) := ⟨fun h => ⟨rfl, h⟩⟩
instance (priority := high) st_notN_str {i : Str} : Step (rdNotN (.str i) .non μ QM') (QM' (.bl true) μ) := ⟨fun h => ⟨rfl, h⟩⟩
instance (priority := high) st_isN_str {i : Str} : Step (rdIsN (.str i) .non μ QM') (QM' (.bl false) μ) := ⟨fun h => ⟨rfl, h⟩⟩
instance (priority := high) st_notN_bl {i : Bool} : Step (rdNotN (.bl i) .non μ QM') (QM' (.bl true) μ) := ⟨fun h => ⟨rfl, h⟩⟩
instance (priority := high) st_isN_bl {i : Bool} : Step (rdIsN (.bl i) .non μ QM') (QM' (.bl false) μ) := ⟨fun h => ⟨rfl, h⟩⟩
instance (priority := high) st_notN_tup {l : List D} : Step (rdNotN (.tup l) .non μ QM') (QM' (.bl true) μ) := ⟨fun h => ⟨rfl, h⟩⟩
instance (priority := high) st_isN_tup {l : List D} : Step (rdIsN (.tup l) .non μ QM') (QM' (.bl false) μ) := ⟨fun h => ⟨rfl, h⟩⟩
instance (priority := high) st_notN_lst {l : List D} : Step (rdNotN (.lst l) .non μ QM') (QM' (.bl true) μ) := ⟨fun h => ⟨rfl, h⟩⟩
instance (priority := high) st_isN_lst {l : List D} : Step (rdIsN (.lst l) .non μ QM') (QM' (.bl false) μ) := ⟨fun h => ⟨rfl, h⟩⟩
instance (priority := high) st_notN_ref {p : Addr} : Step (rdNotN (.ref p) .non μ QM') (QM' (.bl true) μ) := ⟨fun h => ⟨rfl, h⟩⟩
instance (priority := high) st_isN_ref {p : Addr} : Step (rdIsN (.ref p) .non μ QM') (QM' (.bl false) μ) := ⟨fun h => ⟨rfl, h⟩⟩
instance (priority := high) st_notN_obj {c : Str} {fs : List (Str × D)} : Step (rdNotN (.obj c fs) .non μ QM') (QM' (.bl true) μ) := ⟨fun h => ⟨rfl, h⟩⟩
instance (priority := high) st_isN_obj {c : Str} {fs : List (Str × D)} : Step (rdIsN (.obj c fs) .non μ QM') (QM' (.bl false) μ) := ⟨fun h => ⟨rfl, h⟩⟩
instance (priority := high) st_notN_non : Step (rdNotN .non .non μ QM') (QM' (.bl false) μ) := ⟨fun h => ⟨rfl, h⟩⟩
instance (priority := high) st_isN_non : Step (rdIsN .non .non μ QM') (QM' (.bl true) μ) := ⟨fun h => ⟨rfl, h⟩⟩
instance st_divmod {i j : Int} : Step (rdDivMod [.int i, .int j] μ QM') ((0 < j ∧ j < 1073741824) ∧ QM' (.tup [.int (i / j), .int (i % j)]) μ) := ⟨fun h => ⟨i, j, rfl, h.1, h.2⟩⟩
theorem i_sum {d : D} {ns : List Int} (hl : seqOf μ d = some (ns.map .int)) (h : QM' (.int ns.sum) μ) : rdSum [d] μ QM' := ⟨d, ns, rfl, hl, h⟩
instance st_sum {ns : List Int} : Step (rdSum [.lst (ns.map .int)] μ QM') (QM' (.int ns.sum) μ) := ⟨fun h => i_sum rfl h⟩
def RevD (x : D) (o : Option Int) (μ : Mem) (R : D → Prop) : Prop := (∃ l, x = .tup l ∧ R (.tup (l.take (revIx l.length o)).reverse)) ∨ (∃ l, o = none ∧ (∀ m, x ≠ .tup m) ∧ seqOf μ x = some l ∧ R (.lst l.reverse))
instance st_rev {de : DE} {dl : DO} : Step (dRev de dl δ μ Q) (de δ μ fun x δ1 μ1 => dl δ1 μ1 fun o δ2 μ2 => RevD x o μ2 fun d => Q d δ2 μ2) := ⟨id⟩
instance (priority := low) st_revT {l : List D} {R : D → Prop} : Step (RevD (.tup l) none μ R) (R (.tup l.reverse)) := ⟨fun h => .inl ⟨l, rfl, by show R (.tup (l.take l.length).reverse); rw [List.take_length]; exact h⟩⟩
instance st_revT2 {a b : D} {R : D → Prop} : Step (RevD (.tup [a, b]) none μ R) (R (.tup [b, a])) := ⟨fun h => .inl ⟨_, rfl, h⟩⟩
instance (priority := low) st_revTo {l : List D} {i : Int} {R : D → Prop} : Step (RevD (.tup l) (some i) μ R) (R (.tup (l.take (revIx l.length (some i))).reverse)) := ⟨fun h => .inl ⟨l, rfl, h⟩⟩
instance st_revL {l : List D} {R : D → Prop} : Step (RevD (.lst l) none μ R) (R (.lst l.reverse)) := ⟨fun h => .inr ⟨l, rfl, (fun _ z => nomatch z), rfl, h⟩⟩
theorem rev_o {i : Nat} {l : List D} (h : δ[i]? = some (.own (.lst l))) (q : Q (.lst l.reverse) δ μ) : dRevO i δ μ Q := ⟨l, h, q⟩
def EnumW (ds : List D) (μ : Mem) (R : List D → (Mem → Prop) → Prop) : Prop := ∃ d, ds = [d] ∧ WkL d μ fun l G => R (enumD l) G
instance st_enum {da : DA} {R : List D → (Mem → Prop) → Ss → Mem → Prop} : Step (diEnum da δ μ R) (da δ μ fun ds δ1 μ1 => EnumW ds μ1 fun l G => R l G δ1 μ1) := ⟨id⟩
instance st_enumW {d : D} {R : List D → (Mem → Prop) → Prop} : Step (EnumW [d] μ R) (WkL d μ fun l G => R (enumD l) G) := ⟨fun h => ⟨d, rfl, h⟩⟩
def ZipW (ds : List D) (μ : Mem) (R : List D → (Mem → Prop) → Prop) : Prop := ∃ d e, ds = [d, e] ∧ ((WkL d μ fun l G => WkL e μ fun m G' => R (zipD l m) (fun μ => G μ ∧ G' μ)) ∨ (∃ l m, d = .tup l ∧ e = .tup m ∧ R (zipD l m) (fun _ => True)))
instance st_zip {da : DA} {R : List D → (Mem → Prop) → Ss → Mem → Prop} : Step (diZip da δ μ R) (da δ μ fun ds δ1 μ1 => ZipW ds μ1 fun l G => R l G δ1 μ1) := ⟨id⟩
theorem tt_and : (fun _ : Mem => True ∧ True) = fun _ : Mem => True := by simp
instance st_zipT {l m : List D} {R : List D → (Mem → Prop) → Prop} : Step (ZipW [.tup l, .tup m] μ R) (R (zipD l m) (fun _ => True)) := ⟨fun h => ⟨_, _, rfl, .inr ⟨l, m, rfl, rfl, h⟩⟩⟩
instance st_zipL {l m : List D} {R : List D → (Mem → Prop) → Prop} : Step (ZipW [.lst l, .lst m] μ R) (R (zipD l m) (fun _ => True)) := ⟨fun h => ⟨_, _, rfl, .inl (.inl ⟨l, .inl rfl, .inl ⟨m, .inl rfl, by show R (zipD l m) (fun _ => True ∧ True); rw [tt_and]; exact h⟩⟩)⟩⟩
instance st_seqA {de : DE} {R : List D → (Mem → Prop) → Ss → Mem → Prop} : Step (diSeqA de δ μ R) (de δ μ fun d δ1 μ1 => WkA d μ1 fun l G => R l G δ1 μ1) := ⟨id⟩
instance st_wkaL {a : List D} {R : List D → (Mem → Prop) → Prop} : Step (WkA (.lst a) μ R) (R a (fun _ => True)) := ⟨fun h => .inl (.inl ⟨a, .inl rfl, h⟩)⟩
instance st_wkaS {a : List D} {R : List D → (Mem → Prop) → Prop} : Step (WkA (.scr a) μ R) (R a (fun _ => True)) := ⟨fun h => .inl (.inl ⟨a, .inr rfl, h⟩)⟩
instance st_wkaT {a : List D} {R : List D → (Mem → Prop) → Prop} : Step (WkA (.tup a) μ R) (R a (fun _ => True)) := ⟨fun h => .inr ⟨a, rfl, h⟩⟩
theorem wka_of {a : D} {l : List D} {R : List D → (Mem → Prop) → Prop} (h : seqOf μ a = some l) (q : ∀ G : Mem → Prop, G μ → (∀ μ', seqOf μ' a = some l → G μ') → R l G) : WkA a μ R := by
  cases a with
  | lst m => cases (show some _ = some _ from h); exact .inl (.inl ⟨_, .inl rfl, q _ trivial fun _ _ => trivial⟩)
  | scr m => cases (show some _ = some _ from h); exact .inl (.inl ⟨_, .inr rfl, q _ trivial fun _ _ => trivial⟩)
  | tup m => cases (show some _ = some _ from h); exact .inr ⟨_, rfl, q _ trivial fun _ _ => trivial⟩
  | ref p =>
    have aux : ∀ μ : Mem, seqOf μ (.ref p) = some l → μ p = some (.lst l) := fun μ h => by
      unfold seqOf at h
      dsimp only at h
      split at h
      · cases h; assumption
      · cases h
    exact .inl (.inr ⟨p, l, rfl, aux μ h, q _ (aux μ h) aux⟩)
  | _ => cases h
def EnumA (ds : List D) (μ : Mem) (R : List D → (Mem → Prop) → Prop) : Prop := ∃ d, ds = [d] ∧ WkA d μ fun l G => R (enumD l) G
instance st_enumA {da : DA} {R : List D → (Mem → Prop) → Ss → Mem → Prop} : Step (diEnumA da δ μ R) (da δ μ fun ds δ1 μ1 => EnumA ds μ1 fun l G => R l G δ1 μ1) := ⟨id⟩
instance st_enumAW {d : D} {R : List D → (Mem → Prop) → Prop} : Step (EnumA [d] μ R) (WkA d μ fun l G => R (enumD l) G) := ⟨fun h => ⟨d, rfl, h⟩⟩
theorem i_lenD {d : D} {l : List (Key × D)} (hl : dicOf μ d = some l) (h : QM' (.int l.length) μ) : rdLenD [d] μ QM' := ⟨d, l, rfl, hl, h⟩
instance st_getD {da db dx : DE} : Step (dGetD da db dx δ μ Q) (da δ μ fun x δ1 μ1 => (∃ l, dicOf μ1 x = some l) ∧ db δ1 μ1 fun y δ2 μ2 => dx δ2 μ2 fun z δ3 μ3 => ∃ l k, dicOf μ3 x = some l ∧ keyD y = some k ∧ Q ((valD l k).getD z) δ3 μ3) := ⟨id⟩
instance st_dic1 {kc : Key} {dv : DE} : Step (dDic1 kc dv δ μ Q) (∀ p, μ p = none → dv δ (updM μ p (.dct [])) fun d δ1 μ1 => μ1 p = some (.dct []) ∧ Q (.ref p) δ1 (updM μ1 p (.dct [(kc, d)]))) := ⟨id⟩
instance st_items {de : DE} : Step (dItems de δ μ Q) (de δ μ fun x δ1 μ1 => ∃ p l, x = .ref p ∧ μ1 p = some (.dct l) ∧ Q (.lst (l.map itemD)) δ1 μ1) := ⟨id⟩
theorem i_ltD {x y : D} {p q : PyData} (h1 : pd x = some p) (h2 : pd y = some q) (h3 : PySem.W.alike p q = true) (h4 : p ≠ .none) (h5 : p.depth ≤ 64) (h : QM' (.bl (PySem.W.dataLt p q)) μ) : rdLtD x y μ QM' := ⟨p, q, h1, h2, h3, h4, h5, h⟩
theorem i_min2D {x y : D} {p q : PyData} (h1 : pd x = some p) (h2 : pd y = some q) (h3 : PySem.W.alike p q = true) (h4 : PySem.W.alike p p = true) (h5 : PySem.W.alike q q = true) (h6 : p ≠ .none) (h7 : p.depth ≤ 40) (h8 : q.depth ≤ 40) (h : QM' (if PySem.W.dataLt q p = true then y else x) μ) : rdMin2D [x, y] μ QM' := ⟨x, y, p, q, rfl, h1, h2, h3, h4, h5, h6, h7, h8, h⟩
theorem i_sortD {d : D} {ps : List (D × PyData)} (h0 : lstOf μ d = some (ps.map (·.1))) (h1 : ∀ p ∈ ps, pd p.1 = some p.2) (h2 : PySem.W.AllAlike (ps.map (·.2))) (h3 : PySem.W.Sortable (ps.map (·.2))) (h4 : ∀ p ∈ ps, p.2.depth ≤ 40) (h5 : ps.length ≤ 100000) (h : QM' (.lst ((ps.mergeSort (PySem.W.dataLe false (·.2))).map (·.1))) μ) : rdSortD [d] μ QM' := ⟨d, ps, rfl, h0, h1, h2, h3, h4, Nat.le_trans h5 (by decide), h⟩
theorem i_listD {d : D} {l : List (Key × D)} (hl : dicOf μ d = some l) (h : QM' (.lst (l.map fun kv => kD kv.1)) μ) : rdListD [d] μ QM' := ⟨d, l, rfl, hl, h⟩
instance st_lock {ds : DS} {DD : DEnds} : Step (dLock ds DD δ μ) (∃ p l, μ p = some (.dct l) ∧ ∀ od kvs, ds ⟨fun δ' μ' => μ' p = some (.lck od kvs l) ∧ DD.nx δ' (updM μ' p (.dct l)), fun v μ' => μ' p = some (.lck od kvs l) ∧ DD.rt v (updM μ' p (.dct l)), fun δ' μ' => μ' p = some (.lck od kvs l) ∧ DD.bk δ' (updM μ' p (.dct l)), fun δ' μ' => μ' p = some (.lck od kvs l) ∧ DD.ct δ' (updM μ' p (.dct l))⟩ δ (updM μ p (.lck od kvs l))) := ⟨id⟩
instance st_diItems {de : DE} {R : List D → (Mem → Prop) → Ss → Mem → Prop} : Step (diItems de δ μ R) (de δ μ fun x δ1 μ1 => ∃ p od kvs l, x = .ref p ∧ μ1 p = some (.lck od kvs l) ∧ R (l.map itemD) (fun μ => μ p = some (.lck od kvs l)) δ1 μ1) := ⟨id⟩
instance st_diVals {de : DE} {R : List D → (Mem → Prop) → Ss → Mem → Prop} : Step (diVals de δ μ R) (de δ μ fun x δ1 μ1 => ∃ p od kvs l, x = .ref p ∧ μ1 p = some (.lck od kvs l) ∧ R (l.map (·.2)) (fun μ => μ p = some (.lck od kvs l)) δ1 μ1) := ⟨id⟩
instance st_diKeys {de : DE} {R : List D → (Mem → Prop) → Ss → Mem → Prop} : Step (diKeys de δ μ R) (de δ μ fun x δ1 μ1 => ∃ p od kvs l, x = .ref p ∧ μ1 p = some (.lck od kvs l) ∧ R (l.map fun q => kD q.1) (fun μ => μ p = some (.lck od kvs l)) δ1 μ1) := ⟨id⟩
theorem i_copyD {d : D} {l : List (Key × D)} (hl : dicOf μ d = some l) (h : ∀ p, μ p = none → QM' (.ref p) (updM μ p (.dct l))) : rdCopyD [d] μ QM' := ⟨d, l, rfl, hl, h⟩
theorem i_isiM {x : D} {T t : String} {b : Bool} (ht : tyM μ x = some t) (hk : kitB t T = some b) (h : QM' (.bl b) μ) : rdIsiM [x, .ty T] μ QM' := ⟨x, T, t, b, rfl, ht, hk, h⟩
theorem i_isLR {p : Addr} {l : List D} (hp : μ p = some (.lst l)) (h : QM' (.bl true) μ) : rdIsiM [.ref p, .ty "list"] μ QM' := i_isiM (t := "list") (by unfold tyM; dsimp only; rw [hp]) kB_ll h
theorem zip_rl {p : Addr} {l m : List D} {R : List D → (Mem → Prop) → Prop} (hp : μ p = some (.lst l)) (h : R (zipD l m) (fun μ => μ p = some (.lst l) ∧ True)) : ZipW [.ref p, .lst m] μ R := ⟨_, _, rfl, .inl (.inr ⟨p, l, rfl, hp, .inl ⟨m, .inl rfl, h⟩⟩)⟩
theorem i_inK {y x : D} {l : List (Key × D)} {k : Key} {neg : Bool} (h1 : dicOf μ x = some l) (h2 : keyD y = some k) (h : QM' (.bl (if neg then !(valD l k).isSome else (valD l k).isSome)) μ) : rdInK neg y x μ QM' := ⟨l, k, h1, h2, h⟩
theorem i_minD {d : D} (p : D × PyData) (ps : List (D × PyData)) (h1 : lstOf μ d = some ((p :: ps).map (·.1))) (h2 : ∀ c ∈ p :: ps, pd c.1 = some c.2) (h3 : PySem.W.AlikeAll ((p :: ps).map (·.2))) (h4 : ∀ c ∈ p :: ps, c.2.depth ≤ 40) (h : ∀ c ∈ p :: ps, c.2 = PySem.W.minD p.2 (ps.map (·.2)) → QM' c.1 μ) : rdMinD [d] μ QM' := ⟨d, p, ps, rfl, h1, h2, h3, h4, h⟩
def MinF (xs zs : List D) (μ : Mem) (R : D → Prop) : Prop := ∃ (d z : D) (ps : List (D × PyData)), xs = [d] ∧ zs = [z] ∧ lstOf μ d = some (ps.map (·.1)) ∧ (∀ c ∈ ps, pd c.1 = some c.2) ∧ PySem.W.AlikeAll (ps.map (·.2)) ∧ (∀ c ∈ ps, c.2.depth ≤ 40) ∧ (ps = [] → R z) ∧ ∀ p ps', ps = p :: ps' → ∀ c ∈ ps, c.2 = PySem.W.minD p.2 (ps'.map (·.2)) → R c.1
instance st_minF {da dk : DA} : Step (dMinF da dk δ μ Q) (da δ μ fun xs δ1 μ1 => dk δ1 μ1 fun zs δ2 μ2 => MinF xs zs μ2 fun d => Q d δ2 μ2) := ⟨id⟩
instance st_setd {do_ dk dx : DE} : Step (dSetd do_ dk dx δ μ Q) (do_ δ μ fun x δ1 μ1 => (∃ p l, x = .ref p ∧ μ1 p = some (.dct l)) ∧ dk δ1 μ1 fun y δ2 μ2 => dx δ2 μ2 fun z δ3 μ3 => ∃ p l k, x = .ref p ∧ μ3 p = some (.dct l) ∧ keyD y = some k ∧ l.length < sizeLine ∧ (∀ d, valD l k = some d → Q d δ3 μ3) ∧ (valD l k = none → Q z δ3 (updM μ3 p (.dct (putKD l k z))))) := ⟨id⟩
instance st_augK {do_ dk de : DE} {f : Int → Int → Int} {nx : Ss → Mem → Prop} {rt : QM} {bk ct : Ss → Mem → Prop} : Step (dAugK do_ dk de f ⟨nx, rt, bk, ct⟩ δ μ) (do_ δ μ fun x δ1 μ1 => dk δ1 μ1 fun y δ2 μ2 => ∃ l k n, dicOf μ2 x = some l ∧ keyD y = some k ∧ valD l k = some (.int n) ∧ de δ2 μ2 fun d δ3 μ3 => ∃ m p l', d = .int m ∧ x = .ref p ∧ μ3 p = some (.dct l') ∧ l'.length < sizeLine ∧ nx δ3 (updM μ3 p (.dct (putKD l' k (.int (f n m)))))) := ⟨id⟩
def IndexW (x y : D) (μ : Mem) (R : D → Prop) : Prop := ∃ l ps p j z, lstOf μ x = some l ∧ pds l = some ps ∧ pd y = some p ∧ SeqAt.shaped (.list ps) = true ∧ SeqAt.shaped p = true ∧ ps[j]? = some z ∧ PyData.eqv z p = true ∧ (∀ (m : Nat) (z' : PyData), m < j → ps[m]? = some z' → PyData.eqv z' p = false) ∧ R (.int (j : Nat))
instance st_index {do_ de : DE} : Step (dIndex do_ de δ μ Q) (do_ δ μ fun x δ1 μ1 => (∃ l, lstOf μ1 x = some l) ∧ de δ1 μ1 fun y δ2 μ2 => IndexW x y μ2 fun d => Q d δ2 μ2) := ⟨id⟩
instance st_orL {da db : DE} : Step (dOrL da db δ μ Q) (da δ μ fun x δ1 μ1 => ∃ l, seqOf μ1 x = some l ∧ if (!l.isEmpty) = true then Q x δ1 μ1 else db δ1 μ1 Q) := ⟨id⟩
instance st_repr {x : D} : Step (rdRepr [x] μ QM') (isSeqD x = true ∧ okR x ∧ QM' (.str (shownD x)) μ) := ⟨fun h => ⟨x, rfl, h⟩⟩
/-! a method called with names -/
def KwC (n l : Nat) (pk : List (Bool × Nat)) (dsp : DSp) (x : D) (ds es dds : List D) (μ : Mem) (Q : QM) (E : DX) : Prop := (x :: ds).length = n ∧ es.length = l ∧ dsp ((x :: ds) ++ pick .non pk es dds) μ Q E
instance st_methK {C m : Str} {n l : Nat} {pk : List (Bool × Nat)} {dsp : DSp} {dds : List D} {XD : DXW} {do_ : DE} {da dk : DA} : Step (dMethK C m n l pk dsp dds XD do_ da dk δ μ Q) (do_ δ μ fun x δ1 μ1 => OnM C m x μ1 (da δ1 μ1 fun ds δ2 μ2 => dk δ2 μ2 fun es δ3 μ3 => KwC n l pk dsp x ds es dds μ3 (fun d μ4 => Q d δ3 μ4) (fun c fs μ4 => XD c fs δ3 μ4))) := ⟨id⟩
theorem kw_c {n l : Nat} {pk : List (Bool × Nat)} {dsp : DSp} {x : D} {ds es dds fu : List D} {E : DX} (h1 : (x :: ds).length = n) (h2 : es.length = l) (e : (x :: ds) ++ pick .non pk es dds = fu) (h : dsp fu μ QM' E) : KwC n l pk dsp x ds es dds μ QM' E := ⟨h1, h2, by rw [e]; exact h⟩
theorem i_slQ {x : D} {l : List D} {lo hi : Option Int} (hs : seqOf μ x = some l) (hn : ∀ m, x ≠ .tup m) (h : QM' (.lst (cutD l lo hi)) μ) : rdSl x lo hi μ QM' := .inr (.inr ⟨l, hn, hs, h⟩)
theorem cut_by {t u : DS} (M : Ss → Mem → Prop) (h1 : t ⟨Wn M, rt, bk, ct⟩ δ μ) (h2 : ∀ δ μ, M δ μ → u ⟨nx, rt, bk, ct⟩ δ μ) : dCut t u ⟨nx, rt, bk, ct⟩ δ μ := ⟨M, h1, h2⟩
theorem cut_at {t u : DS} (δ0 : Ss) (h1 : t ⟨Wn (fun δ' μ' => δ' = δ0 ∧ μ' = μ), rt, bk, ct⟩ δ μ) (h2 : u ⟨nx, rt, bk, ct⟩ δ0 μ) : dCut t u ⟨nx, rt, bk, ct⟩ δ μ := ⟨_, h1, fun δ' μ' w => by rw [w.1, w.2]; exact h2⟩
/-! a list is walked -/
instance st_any {de : DE} {R : List D → (Mem → Prop) → Ss → Mem → Prop} : Step (diAny de δ μ R) (de δ μ fun d δ1 μ1 => WkL d μ1 fun l G => R l G δ1 μ1) := ⟨id⟩
instance st_wkl {a : List D} {R : List D → (Mem → Prop) → Prop} : Step (WkL (.lst a) μ R) (R a (fun _ => True)) := ⟨fun h => .inl ⟨a, .inl rfl, h⟩⟩
instance st_wks {a : List D} {R : List D → (Mem → Prop) → Prop} : Step (WkL (.scr a) μ R) (R a (fun _ => True)) := ⟨fun h => .inl ⟨a, .inr rfl, h⟩⟩
theorem wk_r {p : Addr} {l : List D} {R : List D → (Mem → Prop) → Prop} (hp : μ p = some (.lst l)) (h : R l (fun μ => μ p = some (.lst l))) : WkL (.ref p) μ R := .inr ⟨p, l, rfl, hp, h⟩
theorem wk_of {a : D} {l : List D} {R : List D → (Mem → Prop) → Prop} (h : lstOf μ a = some l) (q : ∀ G : Mem → Prop, G μ → R l G) : WkL a μ R := by
  cases a with
  | lst m => cases (show some m = some l from h); exact .inl ⟨_, .inl rfl, q _ trivial⟩
  | scr m => cases (show some m = some l from h); exact .inl ⟨_, .inr rfl, q _ trivial⟩
  | ref p =>
    unfold lstOf at h
    dsimp only at h
    split at h
    · cases h
      rename_i hm
      exact .inr ⟨p, _, rfl, hm, q _ hm⟩
    · cases h
  | _ => cases (show none = some l from h)
theorem lstOf_le {a : D} {l : List D} {μ' : Mem} (x : LeM μ μ') (h : lstOf μ a = some l) : lstOf μ' a = some l := by
  cases a with
  | ref p =>
    unfold lstOf at h ⊢
    dsimp only at h ⊢
    split at h
    · rename_i hm
      rw [x _ _ hm]
      exact h
    · cases h
  | _ => exact h
/-- .. and is the same in all that comes -/
theorem wk_le {a : D} {l : List D} {R : List D → (Mem → Prop) → Prop} (h : lstOf μ a = some l) (q : ∀ G : Mem → Prop, (∀ μ', lstOf μ' a = some l → G μ') → R l G) : WkL a μ R := by
  cases a with
  | lst m => cases (show some m = some l from h); exact .inl ⟨_, .inl rfl, q _ fun _ _ => trivial⟩
  | scr m => cases (show some m = some l from h); exact .inl ⟨_, .inr rfl, q _ fun _ _ => trivial⟩
  | ref p =>
    unfold lstOf at h
    dsimp only at h
    split at h
    · cases h
      rename_i l' hm
      refine .inr ⟨p, _, rfl, hm, q _ fun μ' h' => ?_⟩
      unfold lstOf at h'
      dsimp only at h'
      split at h'
      · rename_i hm'
        cases h'
        exact hm'
      · cases h'
    · cases h
  | _ => cases (show none = some l from h)
theorem lst_seq {a : D} {l : List D} (h : lstOf μ a = some l) : seqOf μ a = some l := by
  cases a with
  | lst m => exact h
  | scr m => exact h
  | ref p => exact h
  | _ => cases (show none = some l from h)
theorem lst_ref {p : Addr} {l : List D} (h : μ p = some (.lst l)) : lstOf μ (.ref p) = some l := by unfold lstOf; dsimp only; rw [h]
/-! len of an own object -/
def OnL (C : Str) (x : D) (μ : Mem) (R : Prop) : Prop := ∃ fs, objOf μ x = some (C, fs) ∧ R
def LenV (d : D) (R : Int → Prop) : Prop := ∃ n : Int, d = .int n ∧ 0 ≤ n ∧ n < 2 ^ 63 ∧ R n
instance st_lenM {C : Str} {dsp : DSp} {XD : DXW} {da : DE} : Step (dLenM C dsp XD da δ μ Q) (da δ μ fun x δ1 μ1 => OnL C x μ1 (dsp [x] μ1 (fun d μ2 => LenV d fun n => Q (.int n) δ1 μ2) (fun c fs μ2 => XD c fs δ1 μ2))) := ⟨id⟩
instance st_lenV {n : Int} {R : Int → Prop} : Step (LenV (.int n) R) ((0 ≤ n ∧ n < 9223372036854775808) ∧ R n) := ⟨fun h => ⟨n, rfl, h.1.1, h.1.2, h.2⟩⟩
theorem onl_ref {C : Str} {p : Addr} {fs : List (Str × D)} {R : Prop} (hp : μ p = some (.obj C fs)) (h : R) : OnL C (.ref p) μ R := ⟨fs, by unfold objOf; dsimp only; rw [hp], h⟩
/-! while -/
def LtW (W : Nat → Ss → Mem → Prop) (m : Nat) (δ : Ss) (μ : Mem) : Prop := ∃ m', m' < m ∧ Wn (W m') δ μ
theorem wh_by {dc : DT} {db : DS} (W : Nat → Ss → Mem → Prop) (m : Nat) (h0 : Wn (W m) δ μ) (turn : ∀ m δ μ, W m δ μ → dc δ μ fun b δ1 μ1 => if b = true then db ⟨LtW W m, rt, nx, LtW W m⟩ δ1 μ1 else nx δ1 μ1) : dWhile dc db ⟨nx, rt, bk, ct⟩ δ μ := ⟨W, ⟨m, h0⟩, turn⟩
theorem lt_w {W : Nat → Ss → Mem → Prop} {m : Nat} (m' : Nat) (h : m' < m) (w : Wn (W m') δ μ) : LtW W m δ μ := ⟨m', h, w⟩
/-! methods that change a list -/
instance st_lmM {do_ : DE} {lm : LM} {da : DA} : Step (dLMM do_ lm da δ μ Q) (do_ δ μ fun x δ1 μ1 => (∃ p l, x = .ref p ∧ μ1 p = some (.lst l)) ∧ da δ1 μ1 fun ds δ2 μ2 => ∃ p l, x = .ref p ∧ μ2 p = some (.lst l) ∧ lm ds l μ2 fun d l' => Q d δ2 (updM μ2 p (.lst l'))) := ⟨id⟩
instance st_lmClear {l : List D} {R : D → List D → Prop} : Step (lmClear [] l μ R) (R .non []) := ⟨fun h => ⟨rfl, h⟩⟩
instance st_lmRev {l : List D} {R : D → List D → Prop} : Step (lmReverse [] l μ R) (R .non l.reverse) := ⟨fun h => ⟨rfl, h⟩⟩
theorem eraseIdx_map' {α β : Type} (f : α → β) : ∀ (l : List α) (n : Nat), (l.map f).eraseIdx n = (l.eraseIdx n).map f
  | [], _ => rfl
  | a :: l, 0 => rfl
  | a :: l, n + 1 => by
    show f a :: (l.map f).eraseIdx n = f a :: (l.eraseIdx n).map f
    rw [eraseIdx_map' f l n]
theorem pop_at {l : List D} {n : Nat} {y : D} {R : D → List D → Prop} (h : l[n]? = some y) (hn : l.length < 9223372036854775808) (q : R y (l.eraseIdx n)) : lmPopAt [.int (n : Nat)] l μ R := by
  have hi : n < l.length := (List.getElem?_eq_some_iff.mp h).1
  refine ⟨n, n, y, rfl, ⟨by omega, by omega⟩, ?_, h, q⟩
  unfold seqIndex?
  simp
  omega
theorem pop_map {α : Type} {l : List α} {f : α → D} {n : Nat} {a : α} {R : D → List D → Prop} (h : l[n]? = some a) (hn : l.length < 9223372036854775808) (q : R (f a) ((l.eraseIdx n).map f)) : lmPopAt [.int (n : Nat)] (l.map f) μ R := by
  refine pop_at (y := f a) (by rw [List.getElem?_map, h]; rfl) (by rw [List.length_map]; exact hn) ?_
  rw [eraseIdx_map']
  exact q
theorem ins_at {l : List D} {n : Nat} {y : D} {R : D → List D → Prop} (hz : l.length < 16777216) (hn : n ≤ l.length) (q : R .non (l.take n ++ [y] ++ l.drop n)) : lmInsert [.int (n : Nat), y] l μ R := ⟨n, y, rfl, hz, ⟨by omega, by omega⟩, q⟩
theorem ext_l {l m : List D} {R : D → List D → Prop} (hz : l.length + m.length ≤ 16777216) (q : R .non (l ++ m)) : lmExtend [.lst m] l μ R := ⟨_, m, rfl, rfl, rfl, hz, q⟩
/-! ### for, by what holds behind a part of the list -/
theorem for_pg {α : Type} {l : List α} {f : α → D} {G : Mem → Prop} {dg : DG} {db : DS} (I : List α → Ss → Mem → Prop) (hG : ∀ pre δ μ, I pre δ μ → G μ) (h0 : Wn (I []) δ μ) (turn : ∀ pre a post δ μ, l = pre ++ a :: post → I pre δ μ → dg (f a) δ μ fun δ2 μ2 => db ⟨Wn (I (pre ++ [a])), rt, nx, Wn (I (pre ++ [a]))⟩ δ2 μ2) (hd : ∀ δ μ, I l δ μ → nx δ μ) :
    ForG (l.map f) G dg db nx rt δ μ := by
  refine ⟨fun i => I (l.take i), h0, fun i δ μ _ w => hG _ _ _ w, fun i d δ μ e w => ?_, fun δ μ w => ?_⟩
  · obtain ⟨x, hx, rfl⟩ := map_at e
    have t := turn (l.take i) x (l.drop (i + 1)) δ μ (split_at hx) w
    rw [← take_snoc hx] at t
    exact t
  · rw [List.length_map, List.take_length] at w
    exact hd δ μ w
theorem for_pre {α : Type} {l : List α} {f : α → D} {dg : DG} {db : DS} (I : List α → Ss → Mem → Prop) (h0 : Wn (I []) δ μ) (turn : ∀ pre a post δ μ, l = pre ++ a :: post → I pre δ μ → dg (f a) δ μ fun δ2 μ2 => db ⟨Wn (I (pre ++ [a])), rt, nx, Wn (I (pre ++ [a]))⟩ δ2 μ2) (hd : ∀ δ μ, I l δ μ → nx δ μ) :
    ForG (l.map f) (fun _ => True) dg db nx rt δ μ := for_pg I (fun _ _ _ _ => trivial) h0 turn hd
/-- over a list that is written or stands for itself -/
theorem for_raw {l : List D} {dg : DG} {db : DS} (I : List D → Ss → Mem → Prop) (h0 : Wn (I []) δ μ) (turn : ∀ pre a post δ μ, l = pre ++ a :: post → I pre δ μ → dg a δ μ fun δ2 μ2 => db ⟨Wn (I (pre ++ [a])), rt, nx, Wn (I (pre ++ [a]))⟩ δ2 μ2) (hd : ∀ δ μ, I l δ μ → nx δ μ) :
    ForG l (fun _ => True) dg db nx rt δ μ := by
  have h := for_pre (f := id) (l := l) (dg := dg) I h0 turn hd
  rw [List.map_id] at h
  exact h
/-- range -/
theorem for_rng {lo : Int} {n : Nat} {dg : DG} {db : DS} (I : Nat → Ss → Mem → Prop) (h0 : Wn (I 0) δ μ) (turn : ∀ i δ μ, i < n → I i δ μ → dg (.int (lo + (i : Nat))) δ μ fun δ2 μ2 => db ⟨Wn (I (i + 1)), rt, nx, Wn (I (i + 1))⟩ δ2 μ2) (hd : ∀ δ μ, I n δ μ → nx δ μ) :
    ForG (rangeD lo n) (fun _ => True) dg db nx rt δ μ := by
  refine ⟨I, h0, fun _ _ _ _ _ => trivial, fun i d δ μ e w => ?_, fun δ μ w => ?_⟩
  · obtain ⟨hi, rfl⟩ := rangeD_get e
    exact turn i δ μ hi w
  · rw [rangeD_len] at w
    exact hd δ μ w
/-- nothing is carried on -/
theorem for_each {α : Type} {l : List α} {f : α → D} {dg : DG} {db : DS} (δ0 : Ss) (h0 : Le δ0 δ) (turn : ∀ a ∈ l, dg (f a) δ0 μ fun δ2 μ2 => db ⟨Wn (fun δ' μ' => δ' = δ0 ∧ μ' = μ), rt, nx, Wn (fun δ' μ' => δ' = δ0 ∧ μ' = μ)⟩ δ2 μ2) (hd : nx δ0 μ) :
    ForG (l.map f) (fun _ => True) dg db nx rt δ μ := by
  refine for_pre (fun _ δ' μ' => δ' = δ0 ∧ μ' = μ) (wn ⟨rfl, rfl⟩ h0) (fun pre a post δ' μ' e w => ?_) (fun δ' μ' w => ?_)
  · obtain ⟨rfl, rfl⟩ := w
    exact turn a (by rw [e]; simp)
  · obtain ⟨rfl, rfl⟩ := w
    exact hd
/-- .. over a list that stays -/
theorem for_eachG {α : Type} {l : List α} {f : α → D} {G : Mem → Prop} {dg : DG} {db : DS} (hG : G μ) (δ0 : Ss) (h0 : Le δ0 δ) (turn : ∀ a ∈ l, dg (f a) δ0 μ fun δ2 μ2 => db ⟨Wn (fun δ' μ' => δ' = δ0 ∧ μ' = μ), rt, nx, Wn (fun δ' μ' => δ' = δ0 ∧ μ' = μ)⟩ δ2 μ2) (hd : nx δ0 μ) :
    ForG (l.map f) G dg db nx rt δ μ := by
  refine for_pg (fun _ δ' μ' => δ' = δ0 ∧ μ' = μ) (fun _ _ _ w => by rw [w.2]; exact hG) (wn ⟨rfl, rfl⟩ h0) (fun pre a post δ' μ' e w => ?_) (fun δ' μ' w => ?_)
  · obtain ⟨rfl, rfl⟩ := w
    exact turn a (by rw [e]; simp)
  · obtain ⟨rfl, rfl⟩ := w
    exact hd
/-! ### comprehensions -/
/-- each item gives something, or nothing, as h tells -/
theorem lc_g {α : Type} {l : List α} {f : α → D} {G : Mem → Prop} {dg : DG} {dt : DT} {de : DE} {vs : List Nat} {R : List D → Ss → Mem → Prop} (h : α → Option D) (hG : G μ) (hn : noOwn δ vs = true) (hl : l.length ≤ 16777216)
    (turn : ∀ a ∈ l, ∀ P : Option D → Mem → Prop, P (h a) μ → dg (f a) (wipeD δ vs) μ fun δ2 μ2 => wipeD δ2 vs = wipeD δ vs ∧ dt δ2 μ2 fun b δ3 μ3 => δ3 = δ2 ∧ if b = true then de δ2 μ3 fun y δ4 μ4 => δ4 = δ2 ∧ P (some y) μ4 else P none μ3)
    (hd : R (l.filterMap h) δ μ) : LcG (l.map f) G dg dt de vs R δ μ := by
  refine ⟨hn, fun i acc μ' => μ' = μ ∧ acc = (l.take i).filterMap h, ⟨rfl, rfl⟩, fun i acc μ' _ w => by rw [w.1]; exact hG, fun i d acc μ' e w => ?_, fun acc μ' w => ?_⟩
  · obtain ⟨rfl, rfl⟩ := w
    obtain ⟨x, hx, rfl⟩ := map_at e
    have hi : i < l.length := (List.getElem?_eq_some_iff.mp hx).1
    have hz : ((l.take i).filterMap h).length < sizeLine := by
      have h1 := List.length_filterMap_le h (l.take i)
      have h2 : (l.take i).length ≤ i := by rw [List.length_take]; omega
      show _ < 16777216
      omega
    refine turn x (List.mem_of_getElem? hx) (fun o μ4 => match o with | some y => ((l.take i).filterMap h).length < sizeLine ∧ (μ4 = μ' ∧ (l.take i).filterMap h ++ [y] = (l.take (i + 1)).filterMap h) | none => (μ4 = μ' ∧ (l.take i).filterMap h = (l.take (i + 1)).filterMap h)) ?_
    rw [take_snoc hx, List.filterMap_append]
    cases hh : h x with
    | none => exact ⟨rfl, by simp [hh]⟩
    | some y => exact ⟨hz, rfl, by simp [hh]⟩
  · obtain ⟨rfl, rfl⟩ := w
    rw [List.length_map, List.take_length]
    exact hd
/-- .. some of the items, as they are -/
theorem lc_sub {α : Type} {l : List α} {f : α → D} {dg : DG} {dt : DT} {de : DE} {vs : List Nat} {R : List D → Ss → Mem → Prop} (hn : noOwn δ vs = true) (hl : l.length ≤ 16777216)
    (turn : ∀ a ∈ l, ∀ P : Option D → Mem → Prop, P none μ → P (some (f a)) μ → dg (f a) (wipeD δ vs) μ fun δ2 μ2 => wipeD δ2 vs = wipeD δ vs ∧ dt δ2 μ2 fun b δ3 μ3 => δ3 = δ2 ∧ if b = true then de δ2 μ3 fun y δ4 μ4 => δ4 = δ2 ∧ P (some y) μ4 else P none μ3)
    (hd : ∀ m : List α, m.Sublist l → R (m.map f) δ μ) : LcG (l.map f) (fun _ => True) dg dt de vs R δ μ := by
  refine ⟨hn, fun i acc μ' => μ' = μ ∧ ∃ m : List α, m.Sublist (l.take i) ∧ acc = m.map f, ⟨rfl, [], by simp, rfl⟩, fun _ _ _ _ _ => trivial, fun i d acc μ' e w => ?_, fun acc μ' w => ?_⟩
  · obtain ⟨rfl, m, hm, rfl⟩ := w
    obtain ⟨x, hx, rfl⟩ := map_at e
    have hi : i < l.length := (List.getElem?_eq_some_iff.mp hx).1
    have hz : (m.map f).length < sizeLine := by
      rw [List.length_map]
      have h1 := hm.length_le
      have h2 : (l.take i).length ≤ i := by rw [List.length_take]; omega
      show _ < 16777216
      omega
    refine turn x (List.mem_of_getElem? hx) (fun o μ4 => match o with | some y => (m.map f).length < sizeLine ∧ (μ4 = μ' ∧ ∃ m' : List α, m'.Sublist (l.take (i + 1)) ∧ m.map f ++ [y] = m'.map f) | none => (μ4 = μ' ∧ ∃ m' : List α, m'.Sublist (l.take (i + 1)) ∧ m.map f = m'.map f)) ?_ ?_
    · exact ⟨rfl, m, by rw [take_snoc hx]; exact hm.trans (List.sublist_append_left _ _), rfl⟩
    · exact ⟨hz, rfl, m ++ [x], by rw [take_snoc hx]; exact hm.append (List.Sublist.refl _), by simp⟩
  · obtain ⟨rfl, m, hm, rfl⟩ := w
    rw [List.length_map, List.take_length] at hm
    exact hd m hm
theorem lc_p {α : Type} {l : List α} {f : α → D} {dg : DG} {dt : DT} {de : DE} {vs : List Nat} {R : List D → Ss → Mem → Prop} (h : α → Option D) (hn : noOwn δ vs = true) (hl : l.length ≤ 16777216)
    (turn : ∀ a ∈ l, ∀ P : Option D → Mem → Prop, P (h a) μ → dg (f a) (wipeD δ vs) μ fun δ2 μ2 => wipeD δ2 vs = wipeD δ vs ∧ dt δ2 μ2 fun b δ3 μ3 => δ3 = δ2 ∧ if b = true then de δ2 μ3 fun y δ4 μ4 => δ4 = δ2 ∧ P (some y) μ4 else P none μ3)
    (hd : R (l.filterMap h) δ μ) : LcG (l.map f) (fun _ => True) dg dt de vs R δ μ := lc_g h trivial hn hl turn hd
theorem fm_some {α β : Type} (g : α → β) (l : List α) : l.filterMap (fun a => some (g a)) = l.map g := by
  induction l with
  | nil => rfl
  | cons a l ih => simp [ih]
theorem fm_if {α β : Type} (c : α → Bool) (g : α → β) (l : List α) : l.filterMap (fun a => if c a = true then some (g a) else none) = (l.filter c).map g := by
  induction l with
  | nil => rfl
  | cons a l ih => by_cases h : c a = true <;> simp [h, ih]
/-- each item gives g of it -/
theorem lc_map {α : Type} {l : List α} {f : α → D} {dg : DG} {de : DE} {vs : List Nat} {R : List D → Ss → Mem → Prop} (g : α → D) (hn : noOwn δ vs = true) (hl : l.length ≤ 16777216)
    (turn : ∀ a ∈ l, ∀ P : D → Mem → Prop, P (g a) μ → dg (f a) (wipeD δ vs) μ fun δ2 μ2 => wipeD δ2 vs = wipeD δ vs ∧ de δ2 μ2 fun y δ4 μ4 => δ4 = δ2 ∧ P y μ4)
    (hd : R (l.map g) δ μ) : LcG (l.map f) (fun _ => True) dg dYes de vs R δ μ := by
  refine lc_p (fun a => some (g a)) hn hl (fun a ha P hP => ?_) (by rw [fm_some]; exact hd)
  show dg (f a) (wipeD δ vs) μ fun δ2 μ2 => wipeD δ2 vs = wipeD δ vs ∧ (δ2 = δ2 ∧ if true = true then de δ2 μ2 fun y δ4 μ4 => δ4 = δ2 ∧ P (some y) μ4 else P none μ2)
  simp only [if_true, true_and]
  exact turn a ha (fun y μ4 => P (some y) μ4) hP
/-- .. of a list of the memory, which stays -/
theorem lc_mapG {α : Type} {l : List α} {f : α → D} {G : Mem → Prop} {dg : DG} {de : DE} {vs : List Nat} {R : List D → Ss → Mem → Prop} (g : α → D) (hG : G μ) (hn : noOwn δ vs = true) (hl : l.length ≤ 16777216)
    (turn : ∀ a ∈ l, ∀ P : D → Mem → Prop, P (g a) μ → dg (f a) (wipeD δ vs) μ fun δ2 μ2 => wipeD δ2 vs = wipeD δ vs ∧ de δ2 μ2 fun y δ4 μ4 => δ4 = δ2 ∧ P y μ4)
    (hd : R (l.map g) δ μ) : LcG (l.map f) G dg dYes de vs R δ μ := by
  refine lc_g (fun a => some (g a)) hG hn hl (fun a ha P hP => ?_) (by rw [fm_some]; exact hd)
  show dg (f a) (wipeD δ vs) μ fun δ2 μ2 => wipeD δ2 vs = wipeD δ vs ∧ (δ2 = δ2 ∧ if true = true then de δ2 μ2 fun y δ4 μ4 => δ4 = δ2 ∧ P (some y) μ4 else P none μ2)
  simp only [if_true, true_and]
  exact turn a ha (fun y μ4 => P (some y) μ4) hP
/-- each item gives some b with T -/
theorem lc_nd {α β : Type} {l : List α} {f : α → D} {dg : DG} {de : DE} {vs : List Nat} {R : List D → Ss → Mem → Prop} (fb : β → D) (T : α → β → Prop) (hn : noOwn δ vs = true) (hl : l.length ≤ 16777216)
    (turn : ∀ a ∈ l, ∀ P : D → Mem → Prop, (∀ b, T a b → P (fb b) μ) → dg (f a) (wipeD δ vs) μ fun δ2 μ2 => wipeD δ2 vs = wipeD δ vs ∧ de δ2 μ2 fun y δ4 μ4 => δ4 = δ2 ∧ P y μ4)
    (hd : ∀ bs : List β, bs.length = l.length → (∀ (i : Nat) (a : α) (b : β), l[i]? = some a → bs[i]? = some b → T a b) → R (bs.map fb) δ μ) : LcG (l.map f) (fun _ => True) dg dYes de vs R δ μ := by
  refine ⟨hn, fun i acc μ' => μ' = μ ∧ i ≤ l.length ∧ ∃ bs : List β, bs.length = i ∧ acc = bs.map fb ∧ ∀ (j : Nat) (a : α) (b : β), l[j]? = some a → bs[j]? = some b → T a b, ⟨rfl, Nat.zero_le _, [], rfl, rfl, fun j a b _ h => by simp at h⟩, fun _ _ _ _ _ => trivial, fun i d acc μ' e w => ?_, fun acc μ' w => ?_⟩
  · obtain ⟨rfl, _, bs, hb, rfl, ht⟩ := w
    obtain ⟨x, hx, rfl⟩ := map_at e
    have hi : i < l.length := (List.getElem?_eq_some_iff.mp hx).1
    show dg (f x) (wipeD δ vs) μ' fun δ2 μ2 => wipeD δ2 vs = wipeD δ vs ∧ (δ2 = δ2 ∧ if true = true then de δ2 μ2 fun y δ4 μ4 => δ4 = δ2 ∧ (bs.map fb).length < sizeLine ∧ _ else _)
    simp only [if_true, true_and]
    refine turn x (List.mem_of_getElem? hx) (fun y μ4 => (bs.map fb).length < sizeLine ∧ μ4 = μ' ∧ i + 1 ≤ l.length ∧ ∃ cs : List β, cs.length = i + 1 ∧ bs.map fb ++ [y] = cs.map fb ∧ ∀ (j : Nat) (a : α) (b : β), l[j]? = some a → cs[j]? = some b → T a b) fun b hT => ?_
    refine ⟨by rw [List.length_map]; show _ < 16777216; omega, rfl, hi, bs ++ [b], by simp [hb], by simp, fun j a c h1 h2 => ?_⟩
    by_cases hj : j < bs.length
    · rw [List.getElem?_append_left hj] at h2
      exact ht j a c h1 h2
    · rw [List.getElem?_append_right (by omega)] at h2
      have : j - bs.length = 0 := by
        by_cases hz : j - bs.length = 0
        · exact hz
        · rw [List.getElem?_eq_none (by simp; omega)] at h2; cases h2
      rw [this] at h2
      have e2 : b = c := by simpa using h2
      have e3 : j = i := by omega
      rw [e3, hx] at h1
      cases h1
      rw [← e2]; exact hT
  · obtain ⟨rfl, _, bs, hb, rfl, ht⟩ := w
    rw [List.length_map] at hb
    exact hd bs hb ht
theorem lc_gen {α β : Type} {l : List α} {f : α → D} {dg : DG} {de : DE} {vs : List Nat} {R : List D → Ss → Mem → Prop} (fb : β → D) (T : β → Prop) (hn : noOwn δ vs = true) (hl : l.length ≤ 16777216)
    (turn : ∀ a ∈ l, ∀ P : D → Mem → Prop, (∀ b, T b → P (fb b) μ) → dg (f a) (wipeD δ vs) μ fun δ2 μ2 => wipeD δ2 vs = wipeD δ vs ∧ de δ2 μ2 fun y δ4 μ4 => δ4 = δ2 ∧ P y μ4)
    (hd : ∀ bs : List β, bs.length = l.length → (∀ b ∈ bs, T b) → R (bs.map fb) δ μ) : LcG (l.map f) (fun _ => True) dg dYes de vs R δ μ := by
  refine lc_nd fb (fun _ b => T b) hn hl turn fun bs h1 h2 => hd bs h1 fun b hb => ?_
  obtain ⟨i, hi, e⟩ := List.getElem_of_mem hb
  exact h2 i _ b (List.getElem?_eq_getElem (by omega)) (by rw [List.getElem?_eq_getElem hi, e])
theorem lc_rng {β : Type} {lo : Int} {n : Nat} {dg : DG} {de : DE} {vs : List Nat} {R : List D → Ss → Mem → Prop} (fb : β → D) (T : β → Prop) (hn : noOwn δ vs = true) (hl : n ≤ 16777216)
    (turn : ∀ i, i < n → ∀ P : D → Mem → Prop, (∀ b, T b → P (fb b) μ) → dg (.int (lo + (i : Nat))) (wipeD δ vs) μ fun δ2 μ2 => wipeD δ2 vs = wipeD δ vs ∧ de δ2 μ2 fun y δ4 μ4 => δ4 = δ2 ∧ P y μ4)
    (hd : ∀ bs : List β, bs.length = n → (∀ b ∈ bs, T b) → R (bs.map fb) δ μ) : LcG (rangeD lo n) (fun _ => True) dg dYes de vs R δ μ := by
  unfold rangeD
  refine lc_gen fb T hn (by rw [List.length_range]; exact hl) (fun a ha => turn a (List.mem_range.mp ha)) fun bs h1 h2 => hd bs (by rw [List.length_range] at h1; exact h1) h2
/-- .. over range, each place gives g of it -/
theorem lc_rmap {lo : Int} {n : Nat} {dg : DG} {de : DE} {vs : List Nat} {R : List D → Ss → Mem → Prop} (g : Nat → D) (hn : noOwn δ vs = true) (hl : n ≤ 16777216)
    (turn : ∀ i, i < n → ∀ P : D → Mem → Prop, P (g i) μ → dg (.int (lo + (i : Nat))) (wipeD δ vs) μ fun δ2 μ2 => wipeD δ2 vs = wipeD δ vs ∧ de δ2 μ2 fun y δ4 μ4 => δ4 = δ2 ∧ P y μ4)
    (hd : R ((List.range n).map g) δ μ) : LcG (rangeD lo n) (fun _ => True) dg dYes de vs R δ μ := by
  unfold rangeD
  exact lc_map g hn (by rw [List.length_range]; exact hl) (fun a ha => turn a (List.mem_range.mp ha)) hd
/-! ### data that may be compared -/
def plD (m : Nat) (x : D) : Prop := ∃ p, pd x = some p ∧ PyData.canLay0 p = true ∧ p.depth ≤ m
def plDs (m : Nat) (l : List D) : Prop := ∃ ps, pds l = some ps ∧ PyData.canLayAll0 ps = true ∧ PyData.depthAll ps ≤ m
theorem plD.mono {m m' : Nat} {x : D} (h : plD m x) (hm : m ≤ m') : plD m' x := by
  obtain ⟨p, h1, h2, h3⟩ := h
  exact ⟨p, h1, h2, by omega⟩
theorem plDs.mono {m m' : Nat} {x : List D} (h : plDs m x) (hm : m ≤ m') : plDs m' x := by
  obtain ⟨p, h1, h2, h3⟩ := h
  exact ⟨p, h1, h2, by omega⟩
theorem pl_int {i : Int} : plD 1 (.int i) := ⟨.int i, rfl, by simp [PyData.canLay0], by simp [PyData.depth]⟩
theorem pl_bl {i : Bool} : plD 1 (.bl i) := ⟨.bool i, rfl, by simp [PyData.canLay0], by simp [PyData.depth]⟩
theorem pl_non : plD 1 .non := ⟨.none, rfl, by simp [PyData.canLay0], by simp [PyData.depth]⟩
theorem str_ok {z : Str} (h : ∀ c ∈ z.cps.toList, c < 0x110000) : PyData.strOk z = true := by
  unfold PyData.strOk
  rw [Array.all_eq_true_iff_forall_mem]
  intro c hc
  exact decide_eq_true (h c (by simpa using hc))
theorem pl_str {z : Str} (h : ∀ c ∈ z.cps.toList, c < 0x110000) : plD 1 (.str z) := ⟨.str z, rfl, by simp [PyData.canLay0, str_ok h], by simp [PyData.depth]⟩
theorem pls_nil {m : Nat} : plDs m [] := ⟨[], rfl, by simp [PyData.canLayAll0], by simp [PyData.depthAll]⟩
theorem pls_cons {m : Nat} {x : D} {l : List D} (h : plD m x) (h' : plDs m l) : plDs m (x :: l) := by
  obtain ⟨p, h1, h2, h3⟩ := h
  obtain ⟨ps, g1, g2, g3⟩ := h'
  refine ⟨p :: ps, ?_, ?_, ?_⟩
  · show (pd x).bind (fun y => (pds l).map (y :: ·)) = _
    rw [h1, g1]; rfl
  · simp [PyData.canLayAll0, h2, g2]
  · simp only [PyData.depthAll]; omega
theorem pls_all {m : Nat} : ∀ {l : List D}, (∀ x ∈ l, plD m x) → plDs m l
  | [], _ => pls_nil
  | a :: l, h => pls_cons (h a List.mem_cons_self) (pls_all fun b hb => h b (List.mem_cons_of_mem _ hb))
theorem pls_map {α : Type} {m : Nat} {f : α → D} {l : List α} (h : ∀ a ∈ l, plD m (f a)) : plDs m (l.map f) := pls_all fun x hx => by
  obtain ⟨a, ha, rfl⟩ := List.mem_map.mp hx
  exact h a ha
theorem pl_lst {m : Nat} {l : List D} (h : plDs m l) : plD (m + 1) (.lst l) := by
  obtain ⟨ps, g1, g2, g3⟩ := h
  exact ⟨.list ps, by show (pds l).map PyData.list = _; rw [g1]; rfl, by simpa [PyData.canLay0] using g2, by simp only [PyData.depth]; omega⟩
theorem pl_tup {m : Nat} {l : List D} (h : plDs m l) : plD (m + 1) (.tup l) := by
  obtain ⟨ps, g1, g2, g3⟩ := h
  exact ⟨.tuple ps, by show (pds l).map PyData.tuple = _; rw [g1]; rfl, by simpa [PyData.canLay0] using g2, by simp only [PyData.depth]; omega⟩
theorem pl_nil : plD 2 (.lst []) := pl_lst (m := 1) pls_nil
theorem plD.sh {m : Nat} {x : D} (h : plD m x) (hm : m ≤ 64) : shD x = true := by
  obtain ⟨p, h1, h2, h3⟩ := h
  unfold shD
  rw [h1]
  show (PyData.canLay0 p && decide (p.depth ≤ 64)) = true
  rw [h2, decide_eq_true (by omega)]
  rfl
theorem plD.refl {m : Nat} {x : D} (h : plD m x) : eqD x x = true := by
  obtain ⟨p, h1, h2, h3⟩ := h
  unfold eqD
  rw [h1]
  exact PySem.SeqAt.eqv_refl p h2
def eqDs (xs ys : List D) : Bool := match pds xs, pds ys with
  | some p, some q => PyData.eqvAll p q
  | _, _ => false
theorem eqD_lst (xs ys : List D) : eqD (.lst xs) (.lst ys) = eqDs xs ys := by
  unfold eqD eqDs
  show (match (pds xs).map PyData.list, (pds ys).map PyData.list with | some p, some q => PyData.eqv p q | _, _ => false) = _
  cases pds xs <;> cases pds ys <;> simp [PyData.eqv]
theorem eqD_tup (xs ys : List D) : eqD (.tup xs) (.tup ys) = eqDs xs ys := by
  unfold eqD eqDs
  show (match (pds xs).map PyData.tuple, (pds ys).map PyData.tuple with | some p, some q => PyData.eqv p q | _, _ => false) = _
  cases pds xs <;> cases pds ys <;> simp [PyData.eqv]
theorem eqDs_nil : eqDs [] [] = true := by simp [eqDs, pds, PyData.eqvAll]
theorem eqDs_nc (y : D) (ys : List D) : eqDs [] (y :: ys) = false := by
  unfold eqDs
  cases e : pds (y :: ys) with
  | none => rfl
  | some p =>
    have e : (pd y).bind (fun x => (pds ys).map (x :: ·)) = some p := e
    cases e1 : pd y with
    | none => rw [e1] at e; cases e
    | some a =>
      cases e2 : pds ys with
      | none => rw [e1, e2] at e; cases e
      | some b =>
        rw [e1, e2] at e
        cases (show some (a :: b) = some p from e)
        simp [pds, PyData.eqvAll]
theorem eqDs_cn (y : D) (ys : List D) : eqDs (y :: ys) [] = false := by
  unfold eqDs
  cases e : pds (y :: ys) with
  | none => rfl
  | some p =>
    have e : (pd y).bind (fun x => (pds ys).map (x :: ·)) = some p := e
    cases e1 : pd y with
    | none => rw [e1] at e; cases e
    | some a =>
      cases e2 : pds ys with
      | none => rw [e1, e2] at e; cases e
      | some b =>
        rw [e1, e2] at e
        cases (show some (a :: b) = some p from e)
        simp [pds, PyData.eqvAll]
theorem eqDs_cons (x y : D) (xs ys : List D) : eqDs (x :: xs) (y :: ys) = (eqD x y && eqDs xs ys) := by
  unfold eqDs eqD
  show (match (pd x).bind (fun z => (pds xs).map (z :: ·)), (pd y).bind (fun z => (pds ys).map (z :: ·)) with | some p, some q => PyData.eqvAll p q | _, _ => false) = _
  cases pd x <;> cases pd y <;> cases pds xs <;> cases pds ys <;> simp [PyData.eqvAll]
theorem eqD_int (i j : Int) : eqD (.int i) (.int j) = decide (i = j) := by
  show (i == j) = _
  by_cases h : i = j <;> simp [h]
theorem eqD_str (i j : Str) : eqD (.str i) (.str j) = decide (i = j) := by
  show (i == j) = _
  by_cases h : i = j <;> simp [h]
theorem eqD_bl (i j : Bool) : eqD (.bl i) (.bl j) = decide (i = j) := by
  show (i == j) = _
  by_cases h : i = j <;> simp [h]
theorem eqDs_map {α : Type} [DecidableEq α] {f : α → D} : ∀ (l l' : List α), (∀ a ∈ l, ∀ b ∈ l', eqD (f a) (f b) = decide (a = b)) → eqDs (l.map f) (l'.map f) = decide (l = l')
  | [], [], _ => by simp [eqDs_nil]
  | [], b :: l', _ => by rw [List.map_nil, List.map_cons, eqDs_nc]; simp
  | a :: l, [], _ => by rw [List.map_nil, List.map_cons, eqDs_cn]; simp
  | a :: l, b :: l', h => by
    rw [List.map_cons, List.map_cons, eqDs_cons, h a List.mem_cons_self b List.mem_cons_self, eqDs_map l l' fun x hx y hy => h x (List.mem_cons_of_mem _ hx) y (List.mem_cons_of_mem _ hy)]
    by_cases h1 : a = b <;> by_cases h2 : l = l' <;> simp [h1, h2]
theorem eqDs_mapnil {α : Type} {f : α → D} (l : List α) : eqDs (l.map f) [] = decide (l = []) := by
  cases l with
  | nil => simp [eqDs_nil]
  | cons a l => rw [List.map_cons, eqDs_cn]; simp
/-- x == y of data -/
theorem eq_pl {m m' : Nat} {x y : D} (h1 : plD m x) (h2 : plD m' y) (m1 : m ≤ 64) (m2 : m' ≤ 64) {b : Bool} (e : eqD x y = b) (h : QM' (.bl b) μ) : rdEq x y μ QM' := i_eq (h1.sh m1) (h2.sh m2) (by rw [e]; exact h)
theorem ne_pl {m m' : Nat} {x y : D} (h1 : plD m x) (h2 : plD m' y) (m1 : m ≤ 64) (m2 : m' ≤ 64) {b : Bool} (e : eqD x y = b) (h : QM' (.bl (!b)) μ) : rdNe x y μ QM' := i_ne (h1.sh m1) (h2.sh m2) (by rw [e]; exact h)
/-- .. of the same -/
theorem eq_rf {m : Nat} {x : D} (h1 : plD m x) (m1 : m ≤ 64) (h : QM' (.bl true) μ) : rdEq x x μ QM' := eq_pl h1 h1 m1 m1 h1.refl h
theorem ne_rf {m : Nat} {x : D} (h1 : plD m x) (m1 : m ≤ 64) (h : QM' (.bl false) μ) : rdNe x x μ QM' := ne_pl h1 h1 m1 m1 h1.refl h
/-- .. by what they are read as -/
theorem eq_dr {m m' : Nat} {x y x' y' : D} (e1 : drf μ x = x') (e2 : drf μ y = y') (h1 : plD m x') (h2 : plD m' y') (m1 : m ≤ 64) (m2 : m' ≤ 64) {b : Bool} (e : eqD x' y' = b) (h : QM' (.bl b) μ) : rdEq x y μ QM' := .inr ⟨by rw [e1]; exact h1.sh m1, by rw [e2]; exact h2.sh m2, by rw [e1, e2, e]; exact h⟩
theorem ne_dr {m m' : Nat} {x y x' y' : D} (e1 : drf μ x = x') (e2 : drf μ y = y') (h1 : plD m x') (h2 : plD m' y') (m1 : m ≤ 64) (m2 : m' ≤ 64) {b : Bool} (e : eqD x' y' = b) (h : QM' (.bl (!b)) μ) : rdNe x y μ QM' := .inr ⟨by rw [e1]; exact h1.sh m1, by rw [e2]; exact h2.sh m2, by rw [e1, e2, e]; exact h⟩
theorem eq_rfR {m : Nat} {p : Addr} {l : List D} (hp : μ p = some (.lst l)) (h1 : plD m (.lst l)) (m1 : m ≤ 64) (h : QM' (.bl true) μ) : rdEq (.lst l) (.ref p) μ QM' := eq_dr rfl (drf_ref hp) h1 h1 m1 m1 h1.refl h
theorem ne_rfR {m : Nat} {p : Addr} {l : List D} (hp : μ p = some (.lst l)) (h1 : plD m (.lst l)) (m1 : m ≤ 64) (h : QM' (.bl false) μ) : rdNe (.lst l) (.ref p) μ QM' := ne_dr rfl (drf_ref hp) h1 h1 m1 m1 h1.refl h
theorem ne_nilR {α : Type} {m : Nat} {p : Addr} {l : List α} {f : α → D} (hp : μ p = some (.lst (l.map f))) (h1 : plD m (.lst (l.map f))) (m1 : m ≤ 64) (h : QM' (.bl (!decide (l = []))) μ) : rdNe (.ref p) (.lst []) μ QM' := ne_dr (drf_ref hp) (show drf μ (.lst []) = .lst [] from rfl) h1 pl_nil m1 (by decide) (by rw [eqD_lst, eqDs_mapnil]) h
theorem eq_nilR {α : Type} {m : Nat} {p : Addr} {l : List α} {f : α → D} (hp : μ p = some (.lst (l.map f))) (h1 : plD m (.lst (l.map f))) (m1 : m ≤ 64) (h : QM' (.bl (decide (l = []))) μ) : rdEq (.ref p) (.lst []) μ QM' := eq_dr (drf_ref hp) (show drf μ (.lst []) = .lst [] from rfl) h1 pl_nil m1 (by decide) (by rw [eqD_lst, eqDs_mapnil]) h
theorem ne_nil {α : Type} {m : Nat} {l : List α} {f : α → D} (h1 : plD m (.lst (l.map f))) (m1 : m ≤ 64) (h : QM' (.bl (!decide (l = []))) μ) : rdNe (.lst (l.map f)) (.lst []) μ QM' := ne_pl h1 pl_nil m1 (by decide) (by rw [eqD_lst, eqDs_mapnil]) h
theorem eq_nil {α : Type} {m : Nat} {l : List α} {f : α → D} (h1 : plD m (.lst (l.map f))) (m1 : m ≤ 64) (h : QM' (.bl (decide (l = []))) μ) : rdEq (.lst (l.map f)) (.lst []) μ QM' := eq_pl h1 pl_nil m1 (by decide) (by rw [eqD_lst, eqDs_mapnil]) h
/-! a slot's own list is compared -/
theorem eqv_pl {m m' : Nat} {neg : Bool} {x y : D} {R : D → Prop} (h1 : plD m x) (h2 : plD m' y) (m1 : m ≤ 64) (m2 : m' ≤ 64) {b : Bool} (e : eqD x y = b) (h : R (.bl (if neg then !b else b))) : EqV neg x y μ R := ⟨h1.sh m1, by rw [drf_sh (h2.sh m2)]; exact h2.sh m2, by rw [drf_sh (h2.sh m2), e]; exact h⟩
theorem own_ne_nil {α : Type} {m : Nat} {l : List α} {f : α → D} {R : D → Prop} (h1 : plD m (.lst (l.map f))) (m1 : m ≤ 64) (h : R (.bl (!decide (l = [])))) : EqV true (.lst (l.map f)) (.lst []) μ R := eqv_pl (b := decide (l = [])) h1 pl_nil m1 (by decide) (by rw [eqD_lst, eqDs_mapnil]) h
theorem own_eq_nil {α : Type} {m : Nat} {l : List α} {f : α → D} {R : D → Prop} (h1 : plD m (.lst (l.map f))) (m1 : m ≤ 64) (h : R (.bl (decide (l = [])))) : EqV false (.lst (l.map f)) (.lst []) μ R := eqv_pl (b := decide (l = [])) h1 pl_nil m1 (by decide) (by rw [eqD_lst, eqDs_mapnil]) h
/-! x in l, of data -/
theorem in_pl {m m' : Nat} {neg : Bool} {x y : D} {l : List D} (e : drf μ y = .lst l) (h1 : plD m x) (h2 : plD m' (.lst l)) (m1 : m ≤ 64) (m2 : m' ≤ 64) {b : Bool} (eb : anyD x l = b) (h : QM' (.bl (if neg then !b else b)) μ) : rdInD neg x y μ QM' := ⟨l, e, h1.sh m1, h2.sh m2, by rw [eb]; exact h⟩
theorem anyD_map {α : Type} [DecidableEq α] {f : α → D} {a : α} : ∀ {l : List α}, (∀ b ∈ l, eqD (f b) (f a) = decide (b = a)) → anyD (f a) (l.map f) = decide (a ∈ l)
  | [], _ => rfl
  | b :: l, h => by
    have ih := anyD_map (f := f) (a := a) (l := l) fun x hx => h x (List.mem_cons_of_mem _ hx)
    unfold anyD at ih ⊢
    rw [List.map_cons, List.any_cons, ih, h b List.mem_cons_self]
    by_cases e : b = a
    · simp [e]
    · have e2 : ¬ a = b := fun z => e z.symm
      simp [e, e2]
/-! ### texts -/
theorem scps_app (a b : Str) : (a ++ b).cps.toList = a.cps.toList ++ b.cps.toList := TL.tl_append a b
theorem slen_cps (a : Str) : a.length = a.cps.toList.length := by simp [Str.length]
theorem slen_app (a b : Str) : (a ++ b).length = a.length + b.length := by rw [slen_cps, scps_app, List.length_append, ← slen_cps, ← slen_cps]
theorem slen_one (c : Nat) : (⟨#[c]⟩ : Str).length = 1 := rfl
theorem slen_cut (z : Str) (lo hi : Option Int) : (cutS z lo hi).length = HT.sIx z.length z.length hi - HT.sIx z.length 0 lo := by
  rw [slen_cps]
  unfold cutS
  have h1 : HT.sIx z.length z.length hi ≤ z.length := HT.sIx_le _ _ (Nat.le_refl _) hi
  have h2 : HT.sIx z.length 0 lo ≤ z.length := HT.sIx_le _ _ (Nat.zero_le _) lo
  have h3 : z.cps.size = z.length := rfl
  simp
  omega
theorem slen_to (z : Str) (k : Int) (h : 0 ≤ k) : (cutS z none (some k)).length = min k.toNat z.length := by
  obtain ⟨n, rfl⟩ := Int.eq_ofNat_of_zero_le h
  rw [slen_cut, HT.sIx_nat]
  show _ - 0 = _
  simp
theorem slen_from (z : Str) (k : Int) (h : 0 ≤ k) : (cutS z (some k) none).length = z.length - k.toNat := by
  obtain ⟨n, rfl⟩ := Int.eq_ofNat_of_zero_le h
  rw [slen_cut, HT.sIx_nat]
  show z.length - _ = _
  simp
  omega
theorem slen_cutle (z : Str) (lo hi : Option Int) : (cutS z lo hi).length ≤ z.length := by
  rw [slen_cut]
  have h1 : HT.sIx z.length z.length hi ≤ z.length := HT.sIx_le _ _ (Nat.le_refl _) hi
  omega
theorem sz5 {n : Nat} (h : n ≤ 100000) : n ≤ sizeLine := Nat.le_trans h (by decide)
instance st_slS {z : Str} {lo hi : Option Int} : Step (rdSl (.str z) lo hi μ QM') (z.length ≤ 100000 ∧ QM' (.str (cutS z lo hi)) μ) := ⟨fun h => i_slS (sz5 h.1) h.2⟩
instance st_addS {i j : Str} : Step (rdAdd (.str i) (.str j) μ QM') (i.length + j.length ≤ 100000 ∧ QM' (.str (i ++ j)) μ) := ⟨fun h => i_addS (sz5 h.1) h.2⟩
instance st_lenS {z : Str} : Step (rdLen [.str z] μ QM') (z.length ≤ 100000 ∧ QM' (.int z.length) μ) := ⟨fun h => i_lenS (sz5 h.1) h.2⟩
theorem ix_str {z : Str} {i : Int} (h0 : 0 ≤ i) (h1 : i < z.length) (hz : z.length ≤ 100000) (h : ∀ c, z.cps.toList[i.toNat]? = some c → QM' (.str ⟨#[c]⟩) μ) : rdIx (.str z) (.int i) μ QM' := by
  obtain ⟨n, rfl⟩ := Int.eq_ofNat_of_zero_le h0
  have hn : n < z.cps.toList.length := by rw [← slen_cps]; omega
  refine i_ixS (sz5 hz) (c := z.cps.toList[n]) ?_ (h _ (by simp))
  unfold L2.atI ixN
  rw [if_pos (by omega), if_pos (by omega)]
  simp
instance st_ixS {z : Str} {i : Int} : Step (rdIx (.str z) (.int i) μ QM') ((0 ≤ i ∧ i < z.length) ∧ z.length ≤ 100000 ∧ ∀ c, z.cps.toList[i.toNat]? = some c → QM' (.str ⟨#[c]⟩) μ) := ⟨fun h => ix_str h.1.1 h.1.2 h.2.1 h.2.2⟩
/-! ### parts of a list -/
def cutN {α : Type} (xs : List α) (lo hi : Option Int) : List α := (xs.drop (HT.sIx xs.length 0 lo)).take (HT.sIx xs.length xs.length hi - HT.sIx xs.length 0 lo)
theorem cutD_map {α : Type} (f : α → D) (l : List α) (lo hi : Option Int) : cutD (l.map f) lo hi = (cutN l lo hi).map f := by
  unfold cutD cutN
  rw [List.length_map, List.map_take, List.map_drop]
theorem cutN_mem {α : Type} {l : List α} {lo hi : Option Int} {a : α} (h : a ∈ cutN l lo hi) : a ∈ l := by
  unfold cutN at h
  exact List.mem_of_mem_drop (List.mem_of_mem_take h)
theorem cutN_len {α : Type} {l : List α} {lo hi : Option Int} : (cutN l lo hi).length ≤ l.length := by
  unfold cutN
  simp
  omega
theorem sIx_nat {n d k : Nat} : HT.sIx n d (some (k : Int)) = min k n := by
  rw [HT.sIx_nat]
theorem cutN_to {α : Type} (l : List α) (k : Nat) : cutN l none (some (k : Int)) = l.take k := by
  unfold cutN
  rw [sIx_nat]
  have : HT.sIx l.length 0 none = 0 := rfl
  rw [this]
  simp
theorem cutN_from {α : Type} (l : List α) (k : Nat) : cutN l (some (k : Int)) none = l.drop k := by
  unfold cutN
  rw [sIx_nat]
  have : HT.sIx l.length l.length none = l.length := rfl
  rw [this]
  by_cases h : k ≤ l.length
  · rw [Nat.min_eq_left h, List.take_of_length_le (by simp)]
  · rw [Nat.min_eq_right (by omega), List.drop_length, List.drop_of_length_le (by omega)]
    simp
theorem cutN_both {α : Type} (l : List α) (j k : Nat) : cutN l (some (j : Int)) (some (k : Int)) = (l.drop j).take (k - j) := by
  unfold cutN
  rw [sIx_nat, sIx_nat]
  by_cases h : j ≤ l.length
  · rw [Nat.min_eq_left h]
    by_cases h2 : k ≤ l.length
    · rw [Nat.min_eq_left h2]
    · rw [Nat.min_eq_right (by omega), List.take_of_length_le (by simp), List.take_of_length_le (by simp; omega)]
  · rw [Nat.min_eq_right (by omega : l.length ≤ j), List.drop_length, List.drop_of_length_le (by omega)]
    simp
theorem ix_map {α : Type} {l : List α} {f : α → D} {n : Nat} {a : α} (h : l[n]? = some a) (q : QM' (f a) μ) : rdIx (.lst (l.map f)) (.int (n : Nat)) μ QM' := i_ixL (atI_nat (by rw [List.getElem?_map, h]; rfl)) q
theorem ix_mapT {α : Type} {l : List α} {f : α → D} {n : Nat} {a : α} (h : l[n]? = some a) (q : QM' (f a) μ) : rdIx (.tup (l.map f)) (.int (n : Nat)) μ QM' := i_ixT (atI_nat (by rw [List.getElem?_map, h]; rfl)) q
theorem ix_mapR {α : Type} {l : List α} {f : α → D} {n : Nat} {a : α} {p : Addr} (hp : μ p = some (.lst (l.map f))) (h : l[n]? = some a) (q : QM' (f a) μ) : rdIx (.ref p) (.int (n : Nat)) μ QM' := i_ixR hp (atI_nat (by rw [List.getElem?_map, h]; rfl)) q
/-! ### a written list, asked by a place -/
theorem ex_of {α : Type} {P : α → Prop} {a : α} (h : P a) : ∃ x, P x := ⟨a, h⟩
theorem ix_of {l : List D} {i : Int} {n : Nat} {d : D} (hi : i = n) (h : l[n]? = some d) (q : QM' d μ) : rdIx (.lst l) (.int i) μ QM' := by
  subst hi
  exact i_ixL (atI_nat h) q
theorem ix_ofT {l : List D} {i : Int} {n : Nat} {d : D} (hi : i = n) (h : l[n]? = some d) (q : QM' d μ) : rdIx (.tup l) (.int i) μ QM' := by
  subst hi
  exact i_ixT (atI_nat h) q
def IxA (Q : D → Prop) (i : Int) : Nat → List D → Prop
  | _, [] => True
  | n, [d] => i = n → Q d
  | n, d :: e :: l => (i = n → Q d) ∧ IxA Q i (n + 1) (e :: l)
theorem IxA.at {Q : D → Prop} {i : Int} : ∀ {l : List D} {n k : Nat} {d : D}, IxA Q i n l → l[k]? = some d → i = ((n + k : Nat) : Int) → Q d
  | [], n, k, d, _, e, _ => by simp at e
  | [x], n, 0, d, h, e, hi => by simp at e; subst e; exact h hi
  | [x], n, k + 1, d, h, e, hi => by simp at e
  | x :: y :: l, n, 0, d, h, e, hi => by simp at e; subst e; exact h.1 hi
  | x :: y :: l, n, k + 1, d, h, e, hi => IxA.at (l := y :: l) (n := n + 1) (k := k) h.2 (by simpa using e) (by omega)
theorem ix_all {l : List D} {i : Int} (hb : 0 ≤ i ∧ i < l.length) (h : IxA (fun d => QM' d μ) i 0 l) : rdIx (.lst l) (.int i) μ QM' := by
  obtain ⟨k, rfl⟩ := Int.eq_ofNat_of_zero_le hb.1
  have hk : k < l.length := by omega
  exact i_ixL (atI_nat (List.getElem?_eq_getElem hk)) (IxA.at h (List.getElem?_eq_getElem hk) (by omega))
theorem ix_allT {l : List D} {i : Int} (hb : 0 ≤ i ∧ i < l.length) (h : IxA (fun d => QM' d μ) i 0 l) : rdIx (.tup l) (.int i) μ QM' := by
  obtain ⟨k, rfl⟩ := Int.eq_ofNat_of_zero_le hb.1
  have hk : k < l.length := by omega
  exact i_ixT (atI_nat (List.getElem?_eq_getElem hk)) (IxA.at h (List.getElem?_eq_getElem hk) (by omega))
def IxI (i v : Int) : Nat → List Int → Prop
  | _, [] => False
  | n, [a] => i = n ∧ v = a
  | n, a :: b :: l => (i = n ∧ v = a) ∨ IxI i v (n + 1) (b :: l)
theorem IxI.at {i v : Int} : ∀ {l : List Int} {n k : Nat}, l[k]? = some v → i = ((n + k : Nat) : Int) → IxI i v n l
  | [], n, k, e, _ => by simp at e
  | [x], n, 0, e, hi => by simp at e; exact ⟨hi, e.symm⟩
  | [x], n, k + 1, e, hi => by simp at e
  | x :: y :: l, n, 0, e, hi => by simp at e; exact .inl ⟨hi, e.symm⟩
  | x :: y :: l, n, k + 1, e, hi => .inr (IxI.at (l := y :: l) (n := n + 1) (k := k) (by simpa using e) (by omega))
theorem ix_ints {l : List Int} {i : Int} (hb : 0 ≤ i ∧ i < l.length) (h : ∀ v, IxI i v 0 l → QM' (.int v) μ) : rdIx (.lst (l.map .int)) (.int i) μ QM' := by
  obtain ⟨k, rfl⟩ := Int.eq_ofNat_of_zero_le hb.1
  have hk : k < l.length := by omega
  exact i_ixL (atI_nat (by rw [List.getElem?_map, List.getElem?_eq_getElem hk]; rfl)) (h l[k] (IxI.at (List.getElem?_eq_getElem hk) (by omega)))
theorem ix_intsT {l : List Int} {i : Int} (hb : 0 ≤ i ∧ i < l.length) (h : ∀ v, IxI i v 0 l → QM' (.int v) μ) : rdIx (.tup (l.map .int)) (.int i) μ QM' := by
  obtain ⟨k, rfl⟩ := Int.eq_ofNat_of_zero_le hb.1
  have hk : k < l.length := by omega
  exact i_ixT (atI_nat (by rw [List.getElem?_map, List.getElem?_eq_getElem hk]; rfl)) (h l[k] (IxI.at (List.getElem?_eq_getElem hk) (by omega)))
instance (priority := low) lstI_2 {a0 a1 i : Int} {μ : Mem} {Q : QM} : Step (rdIx (.lst [.int a0, .int a1]) (.int i) μ Q) ((0 ≤ i ∧ i < 2) ∧ ∀ v : Int, (i = 0 ∧ v = a0 ∨ i = 1 ∧ v = a1) → Q (.int v) μ) := ⟨fun h => ix_ints (l := [a0, a1]) h.1 h.2⟩
instance (priority := low - 1) lstD_2 {a0 a1 : D} {i : Int} {μ : Mem} {Q : QM} : Step (rdIx (.lst [a0, a1]) (.int i) μ Q) ((0 ≤ i ∧ i < 2) ∧ (i = 0 → Q a0 μ) ∧ (i = 1 → Q a1 μ)) := ⟨fun h => ix_all (l := [a0, a1]) h.1 h.2⟩
instance (priority := low) lstI_3 {a0 a1 a2 i : Int} {μ : Mem} {Q : QM} : Step (rdIx (.lst [.int a0, .int a1, .int a2]) (.int i) μ Q) ((0 ≤ i ∧ i < 3) ∧ ∀ v : Int, (i = 0 ∧ v = a0 ∨ i = 1 ∧ v = a1 ∨ i = 2 ∧ v = a2) → Q (.int v) μ) := ⟨fun h => ix_ints (l := [a0, a1, a2]) h.1 h.2⟩
instance (priority := low - 1) lstD_3 {a0 a1 a2 : D} {i : Int} {μ : Mem} {Q : QM} : Step (rdIx (.lst [a0, a1, a2]) (.int i) μ Q) ((0 ≤ i ∧ i < 3) ∧ (i = 0 → Q a0 μ) ∧ (i = 1 → Q a1 μ) ∧ (i = 2 → Q a2 μ)) := ⟨fun h => ix_all (l := [a0, a1, a2]) h.1 h.2⟩
instance (priority := low) lstI_4 {a0 a1 a2 a3 i : Int} {μ : Mem} {Q : QM} : Step (rdIx (.lst [.int a0, .int a1, .int a2, .int a3]) (.int i) μ Q) ((0 ≤ i ∧ i < 4) ∧ ∀ v : Int, (i = 0 ∧ v = a0 ∨ i = 1 ∧ v = a1 ∨ i = 2 ∧ v = a2 ∨ i = 3 ∧ v = a3) → Q (.int v) μ) := ⟨fun h => ix_ints (l := [a0, a1, a2, a3]) h.1 h.2⟩
instance (priority := low - 1) lstD_4 {a0 a1 a2 a3 : D} {i : Int} {μ : Mem} {Q : QM} : Step (rdIx (.lst [a0, a1, a2, a3]) (.int i) μ Q) ((0 ≤ i ∧ i < 4) ∧ (i = 0 → Q a0 μ) ∧ (i = 1 → Q a1 μ) ∧ (i = 2 → Q a2 μ) ∧ (i = 3 → Q a3 μ)) := ⟨fun h => ix_all (l := [a0, a1, a2, a3]) h.1 h.2⟩
instance (priority := low) lstI_5 {a0 a1 a2 a3 a4 i : Int} {μ : Mem} {Q : QM} : Step (rdIx (.lst [.int a0, .int a1, .int a2, .int a3, .int a4]) (.int i) μ Q) ((0 ≤ i ∧ i < 5) ∧ ∀ v : Int, (i = 0 ∧ v = a0 ∨ i = 1 ∧ v = a1 ∨ i = 2 ∧ v = a2 ∨ i = 3 ∧ v = a3 ∨ i = 4 ∧ v = a4) → Q (.int v) μ) := ⟨fun h => ix_ints (l := [a0, a1, a2, a3, a4]) h.1 h.2⟩
instance (priority := low - 1) lstD_5 {a0 a1 a2 a3 a4 : D} {i : Int} {μ : Mem} {Q : QM} : Step (rdIx (.lst [a0, a1, a2, a3, a4]) (.int i) μ Q) ((0 ≤ i ∧ i < 5) ∧ (i = 0 → Q a0 μ) ∧ (i = 1 → Q a1 μ) ∧ (i = 2 → Q a2 μ) ∧ (i = 3 → Q a3 μ) ∧ (i = 4 → Q a4 μ)) := ⟨fun h => ix_all (l := [a0, a1, a2, a3, a4]) h.1 h.2⟩
instance (priority := low) lstI_6 {a0 a1 a2 a3 a4 a5 i : Int} {μ : Mem} {Q : QM} : Step (rdIx (.lst [.int a0, .int a1, .int a2, .int a3, .int a4, .int a5]) (.int i) μ Q) ((0 ≤ i ∧ i < 6) ∧ ∀ v : Int, (i = 0 ∧ v = a0 ∨ i = 1 ∧ v = a1 ∨ i = 2 ∧ v = a2 ∨ i = 3 ∧ v = a3 ∨ i = 4 ∧ v = a4 ∨ i = 5 ∧ v = a5) → Q (.int v) μ) := ⟨fun h => ix_ints (l := [a0, a1, a2, a3, a4, a5]) h.1 h.2⟩
instance (priority := low - 1) lstD_6 {a0 a1 a2 a3 a4 a5 : D} {i : Int} {μ : Mem} {Q : QM} : Step (rdIx (.lst [a0, a1, a2, a3, a4, a5]) (.int i) μ Q) ((0 ≤ i ∧ i < 6) ∧ (i = 0 → Q a0 μ) ∧ (i = 1 → Q a1 μ) ∧ (i = 2 → Q a2 μ) ∧ (i = 3 → Q a3 μ) ∧ (i = 4 → Q a4 μ) ∧ (i = 5 → Q a5 μ)) := ⟨fun h => ix_all (l := [a0, a1, a2, a3, a4, a5]) h.1 h.2⟩
instance (priority := low) lstI_7 {a0 a1 a2 a3 a4 a5 a6 i : Int} {μ : Mem} {Q : QM} : Step (rdIx (.lst [.int a0, .int a1, .int a2, .int a3, .int a4, .int a5, .int a6]) (.int i) μ Q) ((0 ≤ i ∧ i < 7) ∧ ∀ v : Int, (i = 0 ∧ v = a0 ∨ i = 1 ∧ v = a1 ∨ i = 2 ∧ v = a2 ∨ i = 3 ∧ v = a3 ∨ i = 4 ∧ v = a4 ∨ i = 5 ∧ v = a5 ∨ i = 6 ∧ v = a6) → Q (.int v) μ) := ⟨fun h => ix_ints (l := [a0, a1, a2, a3, a4, a5, a6]) h.1 h.2⟩
instance (priority := low - 1) lstD_7 {a0 a1 a2 a3 a4 a5 a6 : D} {i : Int} {μ : Mem} {Q : QM} : Step (rdIx (.lst [a0, a1, a2, a3, a4, a5, a6]) (.int i) μ Q) ((0 ≤ i ∧ i < 7) ∧ (i = 0 → Q a0 μ) ∧ (i = 1 → Q a1 μ) ∧ (i = 2 → Q a2 μ) ∧ (i = 3 → Q a3 μ) ∧ (i = 4 → Q a4 μ) ∧ (i = 5 → Q a5 μ) ∧ (i = 6 → Q a6 μ)) := ⟨fun h => ix_all (l := [a0, a1, a2, a3, a4, a5, a6]) h.1 h.2⟩
instance (priority := low) lstI_8 {a0 a1 a2 a3 a4 a5 a6 a7 i : Int} {μ : Mem} {Q : QM} : Step (rdIx (.lst [.int a0, .int a1, .int a2, .int a3, .int a4, .int a5, .int a6, .int a7]) (.int i) μ Q) ((0 ≤ i ∧ i < 8) ∧ ∀ v : Int, (i = 0 ∧ v = a0 ∨ i = 1 ∧ v = a1 ∨ i = 2 ∧ v = a2 ∨ i = 3 ∧ v = a3 ∨ i = 4 ∧ v = a4 ∨ i = 5 ∧ v = a5 ∨ i = 6 ∧ v = a6 ∨ i = 7 ∧ v = a7) → Q (.int v) μ) := ⟨fun h => ix_ints (l := [a0, a1, a2, a3, a4, a5, a6, a7]) h.1 h.2⟩
instance (priority := low - 1) lstD_8 {a0 a1 a2 a3 a4 a5 a6 a7 : D} {i : Int} {μ : Mem} {Q : QM} : Step (rdIx (.lst [a0, a1, a2, a3, a4, a5, a6, a7]) (.int i) μ Q) ((0 ≤ i ∧ i < 8) ∧ (i = 0 → Q a0 μ) ∧ (i = 1 → Q a1 μ) ∧ (i = 2 → Q a2 μ) ∧ (i = 3 → Q a3 μ) ∧ (i = 4 → Q a4 μ) ∧ (i = 5 → Q a5 μ) ∧ (i = 6 → Q a6 μ) ∧ (i = 7 → Q a7 μ)) := ⟨fun h => ix_all (l := [a0, a1, a2, a3, a4, a5, a6, a7]) h.1 h.2⟩
instance (priority := low) lstI_9 {a0 a1 a2 a3 a4 a5 a6 a7 a8 i : Int} {μ : Mem} {Q : QM} : Step (rdIx (.lst [.int a0, .int a1, .int a2, .int a3, .int a4, .int a5, .int a6, .int a7, .int a8]) (.int i) μ Q) ((0 ≤ i ∧ i < 9) ∧ ∀ v : Int, (i = 0 ∧ v = a0 ∨ i = 1 ∧ v = a1 ∨ i = 2 ∧ v = a2 ∨ i = 3 ∧ v = a3 ∨ i = 4 ∧ v = a4 ∨ i = 5 ∧ v = a5 ∨ i = 6 ∧ v = a6 ∨ i = 7 ∧ v = a7 ∨ i = 8 ∧ v = a8) → Q (.int v) μ) := ⟨fun h => ix_ints (l := [a0, a1, a2, a3, a4, a5, a6, a7, a8]) h.1 h.2⟩
instance (priority := low - 1) lstD_9 {a0 a1 a2 a3 a4 a5 a6 a7 a8 : D} {i : Int} {μ : Mem} {Q : QM} : Step (rdIx (.lst [a0, a1, a2, a3, a4, a5, a6, a7, a8]) (.int i) μ Q) ((0 ≤ i ∧ i < 9) ∧ (i = 0 → Q a0 μ) ∧ (i = 1 → Q a1 μ) ∧ (i = 2 → Q a2 μ) ∧ (i = 3 → Q a3 μ) ∧ (i = 4 → Q a4 μ) ∧ (i = 5 → Q a5 μ) ∧ (i = 6 → Q a6 μ) ∧ (i = 7 → Q a7 μ) ∧ (i = 8 → Q a8 μ)) := ⟨fun h => ix_all (l := [a0, a1, a2, a3, a4, a5, a6, a7, a8]) h.1 h.2⟩
instance (priority := low - 1) lstD_10 {a0 a1 a2 a3 a4 a5 a6 a7 a8 a9 : D} {i : Int} {μ : Mem} {Q : QM} : Step (rdIx (.lst [a0, a1, a2, a3, a4, a5, a6, a7, a8, a9]) (.int i) μ Q) ((0 ≤ i ∧ i < 10) ∧ (i = 0 → Q a0 μ) ∧ (i = 1 → Q a1 μ) ∧ (i = 2 → Q a2 μ) ∧ (i = 3 → Q a3 μ) ∧ (i = 4 → Q a4 μ) ∧ (i = 5 → Q a5 μ) ∧ (i = 6 → Q a6 μ) ∧ (i = 7 → Q a7 μ) ∧ (i = 8 → Q a8 μ) ∧ (i = 9 → Q a9 μ)) := ⟨fun h => ix_all (l := [a0, a1, a2, a3, a4, a5, a6, a7, a8, a9]) h.1 h.2⟩
instance (priority := low - 1) lstD_11 {a0 a1 a2 a3 a4 a5 a6 a7 a8 a9 a10 : D} {i : Int} {μ : Mem} {Q : QM} : Step (rdIx (.lst [a0, a1, a2, a3, a4, a5, a6, a7, a8, a9, a10]) (.int i) μ Q) ((0 ≤ i ∧ i < 11) ∧ (i = 0 → Q a0 μ) ∧ (i = 1 → Q a1 μ) ∧ (i = 2 → Q a2 μ) ∧ (i = 3 → Q a3 μ) ∧ (i = 4 → Q a4 μ) ∧ (i = 5 → Q a5 μ) ∧ (i = 6 → Q a6 μ) ∧ (i = 7 → Q a7 μ) ∧ (i = 8 → Q a8 μ) ∧ (i = 9 → Q a9 μ) ∧ (i = 10 → Q a10 μ)) := ⟨fun h => ix_all (l := [a0, a1, a2, a3, a4, a5, a6, a7, a8, a9, a10]) h.1 h.2⟩
instance (priority := low - 1) lstD_12 {a0 a1 a2 a3 a4 a5 a6 a7 a8 a9 a10 a11 : D} {i : Int} {μ : Mem} {Q : QM} : Step (rdIx (.lst [a0, a1, a2, a3, a4, a5, a6, a7, a8, a9, a10, a11]) (.int i) μ Q) ((0 ≤ i ∧ i < 12) ∧ (i = 0 → Q a0 μ) ∧ (i = 1 → Q a1 μ) ∧ (i = 2 → Q a2 μ) ∧ (i = 3 → Q a3 μ) ∧ (i = 4 → Q a4 μ) ∧ (i = 5 → Q a5 μ) ∧ (i = 6 → Q a6 μ) ∧ (i = 7 → Q a7 μ) ∧ (i = 8 → Q a8 μ) ∧ (i = 9 → Q a9 μ) ∧ (i = 10 → Q a10 μ) ∧ (i = 11 → Q a11 μ)) := ⟨fun h => ix_all (l := [a0, a1, a2, a3, a4, a5, a6, a7, a8, a9, a10, a11]) h.1 h.2⟩
instance (priority := low - 1) lstD_13 {a0 a1 a2 a3 a4 a5 a6 a7 a8 a9 a10 a11 a12 : D} {i : Int} {μ : Mem} {Q : QM} : Step (rdIx (.lst [a0, a1, a2, a3, a4, a5, a6, a7, a8, a9, a10, a11, a12]) (.int i) μ Q) ((0 ≤ i ∧ i < 13) ∧ (i = 0 → Q a0 μ) ∧ (i = 1 → Q a1 μ) ∧ (i = 2 → Q a2 μ) ∧ (i = 3 → Q a3 μ) ∧ (i = 4 → Q a4 μ) ∧ (i = 5 → Q a5 μ) ∧ (i = 6 → Q a6 μ) ∧ (i = 7 → Q a7 μ) ∧ (i = 8 → Q a8 μ) ∧ (i = 9 → Q a9 μ) ∧ (i = 10 → Q a10 μ) ∧ (i = 11 → Q a11 μ) ∧ (i = 12 → Q a12 μ)) := ⟨fun h => ix_all (l := [a0, a1, a2, a3, a4, a5, a6, a7, a8, a9, a10, a11, a12]) h.1 h.2⟩
instance (priority := low - 1) lstD_14 {a0 a1 a2 a3 a4 a5 a6 a7 a8 a9 a10 a11 a12 a13 : D} {i : Int} {μ : Mem} {Q : QM} : Step (rdIx (.lst [a0, a1, a2, a3, a4, a5, a6, a7, a8, a9, a10, a11, a12, a13]) (.int i) μ Q) ((0 ≤ i ∧ i < 14) ∧ (i = 0 → Q a0 μ) ∧ (i = 1 → Q a1 μ) ∧ (i = 2 → Q a2 μ) ∧ (i = 3 → Q a3 μ) ∧ (i = 4 → Q a4 μ) ∧ (i = 5 → Q a5 μ) ∧ (i = 6 → Q a6 μ) ∧ (i = 7 → Q a7 μ) ∧ (i = 8 → Q a8 μ) ∧ (i = 9 → Q a9 μ) ∧ (i = 10 → Q a10 μ) ∧ (i = 11 → Q a11 μ) ∧ (i = 12 → Q a12 μ) ∧ (i = 13 → Q a13 μ)) := ⟨fun h => ix_all (l := [a0, a1, a2, a3, a4, a5, a6, a7, a8, a9, a10, a11, a12, a13]) h.1 h.2⟩
instance (priority := low) tupI_2 {a0 a1 i : Int} {μ : Mem} {Q : QM} : Step (rdIx (.tup [.int a0, .int a1]) (.int i) μ Q) ((0 ≤ i ∧ i < 2) ∧ ∀ v : Int, (i = 0 ∧ v = a0 ∨ i = 1 ∧ v = a1) → Q (.int v) μ) := ⟨fun h => ix_intsT (l := [a0, a1]) h.1 h.2⟩
instance (priority := low - 1) tupD_2 {a0 a1 : D} {i : Int} {μ : Mem} {Q : QM} : Step (rdIx (.tup [a0, a1]) (.int i) μ Q) ((0 ≤ i ∧ i < 2) ∧ (i = 0 → Q a0 μ) ∧ (i = 1 → Q a1 μ)) := ⟨fun h => ix_allT (l := [a0, a1]) h.1 h.2⟩
instance (priority := low) tupI_3 {a0 a1 a2 i : Int} {μ : Mem} {Q : QM} : Step (rdIx (.tup [.int a0, .int a1, .int a2]) (.int i) μ Q) ((0 ≤ i ∧ i < 3) ∧ ∀ v : Int, (i = 0 ∧ v = a0 ∨ i = 1 ∧ v = a1 ∨ i = 2 ∧ v = a2) → Q (.int v) μ) := ⟨fun h => ix_intsT (l := [a0, a1, a2]) h.1 h.2⟩
instance (priority := low - 1) tupD_3 {a0 a1 a2 : D} {i : Int} {μ : Mem} {Q : QM} : Step (rdIx (.tup [a0, a1, a2]) (.int i) μ Q) ((0 ≤ i ∧ i < 3) ∧ (i = 0 → Q a0 μ) ∧ (i = 1 → Q a1 μ) ∧ (i = 2 → Q a2 μ)) := ⟨fun h => ix_allT (l := [a0, a1, a2]) h.1 h.2⟩
instance (priority := low) tupI_4 {a0 a1 a2 a3 i : Int} {μ : Mem} {Q : QM} : Step (rdIx (.tup [.int a0, .int a1, .int a2, .int a3]) (.int i) μ Q) ((0 ≤ i ∧ i < 4) ∧ ∀ v : Int, (i = 0 ∧ v = a0 ∨ i = 1 ∧ v = a1 ∨ i = 2 ∧ v = a2 ∨ i = 3 ∧ v = a3) → Q (.int v) μ) := ⟨fun h => ix_intsT (l := [a0, a1, a2, a3]) h.1 h.2⟩
instance (priority := low - 1) tupD_4 {a0 a1 a2 a3 : D} {i : Int} {μ : Mem} {Q : QM} : Step (rdIx (.tup [a0, a1, a2, a3]) (.int i) μ Q) ((0 ≤ i ∧ i < 4) ∧ (i = 0 → Q a0 μ) ∧ (i = 1 → Q a1 μ) ∧ (i = 2 → Q a2 μ) ∧ (i = 3 → Q a3 μ)) := ⟨fun h => ix_allT (l := [a0, a1, a2, a3]) h.1 h.2⟩
instance (priority := low) tupI_5 {a0 a1 a2 a3 a4 i : Int} {μ : Mem} {Q : QM} : Step (rdIx (.tup [.int a0, .int a1, .int a2, .int a3, .int a4]) (.int i) μ Q) ((0 ≤ i ∧ i < 5) ∧ ∀ v : Int, (i = 0 ∧ v = a0 ∨ i = 1 ∧ v = a1 ∨ i = 2 ∧ v = a2 ∨ i = 3 ∧ v = a3 ∨ i = 4 ∧ v = a4) → Q (.int v) μ) := ⟨fun h => ix_intsT (l := [a0, a1, a2, a3, a4]) h.1 h.2⟩
instance (priority := low - 1) tupD_5 {a0 a1 a2 a3 a4 : D} {i : Int} {μ : Mem} {Q : QM} : Step (rdIx (.tup [a0, a1, a2, a3, a4]) (.int i) μ Q) ((0 ≤ i ∧ i < 5) ∧ (i = 0 → Q a0 μ) ∧ (i = 1 → Q a1 μ) ∧ (i = 2 → Q a2 μ) ∧ (i = 3 → Q a3 μ) ∧ (i = 4 → Q a4 μ)) := ⟨fun h => ix_allT (l := [a0, a1, a2, a3, a4]) h.1 h.2⟩
instance (priority := low) tupI_6 {a0 a1 a2 a3 a4 a5 i : Int} {μ : Mem} {Q : QM} : Step (rdIx (.tup [.int a0, .int a1, .int a2, .int a3, .int a4, .int a5]) (.int i) μ Q) ((0 ≤ i ∧ i < 6) ∧ ∀ v : Int, (i = 0 ∧ v = a0 ∨ i = 1 ∧ v = a1 ∨ i = 2 ∧ v = a2 ∨ i = 3 ∧ v = a3 ∨ i = 4 ∧ v = a4 ∨ i = 5 ∧ v = a5) → Q (.int v) μ) := ⟨fun h => ix_intsT (l := [a0, a1, a2, a3, a4, a5]) h.1 h.2⟩
instance (priority := low - 1) tupD_6 {a0 a1 a2 a3 a4 a5 : D} {i : Int} {μ : Mem} {Q : QM} : Step (rdIx (.tup [a0, a1, a2, a3, a4, a5]) (.int i) μ Q) ((0 ≤ i ∧ i < 6) ∧ (i = 0 → Q a0 μ) ∧ (i = 1 → Q a1 μ) ∧ (i = 2 → Q a2 μ) ∧ (i = 3 → Q a3 μ) ∧ (i = 4 → Q a4 μ) ∧ (i = 5 → Q a5 μ)) := ⟨fun h => ix_allT (l := [a0, a1, a2, a3, a4, a5]) h.1 h.2⟩
instance (priority := low) tupI_7 {a0 a1 a2 a3 a4 a5 a6 i : Int} {μ : Mem} {Q : QM} : Step (rdIx (.tup [.int a0, .int a1, .int a2, .int a3, .int a4, .int a5, .int a6]) (.int i) μ Q) ((0 ≤ i ∧ i < 7) ∧ ∀ v : Int, (i = 0 ∧ v = a0 ∨ i = 1 ∧ v = a1 ∨ i = 2 ∧ v = a2 ∨ i = 3 ∧ v = a3 ∨ i = 4 ∧ v = a4 ∨ i = 5 ∧ v = a5 ∨ i = 6 ∧ v = a6) → Q (.int v) μ) := ⟨fun h => ix_intsT (l := [a0, a1, a2, a3, a4, a5, a6]) h.1 h.2⟩
instance (priority := low - 1) tupD_7 {a0 a1 a2 a3 a4 a5 a6 : D} {i : Int} {μ : Mem} {Q : QM} : Step (rdIx (.tup [a0, a1, a2, a3, a4, a5, a6]) (.int i) μ Q) ((0 ≤ i ∧ i < 7) ∧ (i = 0 → Q a0 μ) ∧ (i = 1 → Q a1 μ) ∧ (i = 2 → Q a2 μ) ∧ (i = 3 → Q a3 μ) ∧ (i = 4 → Q a4 μ) ∧ (i = 5 → Q a5 μ) ∧ (i = 6 → Q a6 μ)) := ⟨fun h => ix_allT (l := [a0, a1, a2, a3, a4, a5, a6]) h.1 h.2⟩
instance (priority := low) tupI_8 {a0 a1 a2 a3 a4 a5 a6 a7 i : Int} {μ : Mem} {Q : QM} : Step (rdIx (.tup [.int a0, .int a1, .int a2, .int a3, .int a4, .int a5, .int a6, .int a7]) (.int i) μ Q) ((0 ≤ i ∧ i < 8) ∧ ∀ v : Int, (i = 0 ∧ v = a0 ∨ i = 1 ∧ v = a1 ∨ i = 2 ∧ v = a2 ∨ i = 3 ∧ v = a3 ∨ i = 4 ∧ v = a4 ∨ i = 5 ∧ v = a5 ∨ i = 6 ∧ v = a6 ∨ i = 7 ∧ v = a7) → Q (.int v) μ) := ⟨fun h => ix_intsT (l := [a0, a1, a2, a3, a4, a5, a6, a7]) h.1 h.2⟩
instance (priority := low - 1) tupD_8 {a0 a1 a2 a3 a4 a5 a6 a7 : D} {i : Int} {μ : Mem} {Q : QM} : Step (rdIx (.tup [a0, a1, a2, a3, a4, a5, a6, a7]) (.int i) μ Q) ((0 ≤ i ∧ i < 8) ∧ (i = 0 → Q a0 μ) ∧ (i = 1 → Q a1 μ) ∧ (i = 2 → Q a2 μ) ∧ (i = 3 → Q a3 μ) ∧ (i = 4 → Q a4 μ) ∧ (i = 5 → Q a5 μ) ∧ (i = 6 → Q a6 μ) ∧ (i = 7 → Q a7 μ)) := ⟨fun h => ix_allT (l := [a0, a1, a2, a3, a4, a5, a6, a7]) h.1 h.2⟩
instance (priority := low) tupI_9 {a0 a1 a2 a3 a4 a5 a6 a7 a8 i : Int} {μ : Mem} {Q : QM} : Step (rdIx (.tup [.int a0, .int a1, .int a2, .int a3, .int a4, .int a5, .int a6, .int a7, .int a8]) (.int i) μ Q) ((0 ≤ i ∧ i < 9) ∧ ∀ v : Int, (i = 0 ∧ v = a0 ∨ i = 1 ∧ v = a1 ∨ i = 2 ∧ v = a2 ∨ i = 3 ∧ v = a3 ∨ i = 4 ∧ v = a4 ∨ i = 5 ∧ v = a5 ∨ i = 6 ∧ v = a6 ∨ i = 7 ∧ v = a7 ∨ i = 8 ∧ v = a8) → Q (.int v) μ) := ⟨fun h => ix_intsT (l := [a0, a1, a2, a3, a4, a5, a6, a7, a8]) h.1 h.2⟩
instance (priority := low - 1) tupD_9 {a0 a1 a2 a3 a4 a5 a6 a7 a8 : D} {i : Int} {μ : Mem} {Q : QM} : Step (rdIx (.tup [a0, a1, a2, a3, a4, a5, a6, a7, a8]) (.int i) μ Q) ((0 ≤ i ∧ i < 9) ∧ (i = 0 → Q a0 μ) ∧ (i = 1 → Q a1 μ) ∧ (i = 2 → Q a2 μ) ∧ (i = 3 → Q a3 μ) ∧ (i = 4 → Q a4 μ) ∧ (i = 5 → Q a5 μ) ∧ (i = 6 → Q a6 μ) ∧ (i = 7 → Q a7 μ) ∧ (i = 8 → Q a8 μ)) := ⟨fun h => ix_allT (l := [a0, a1, a2, a3, a4, a5, a6, a7, a8]) h.1 h.2⟩
instance (priority := low - 1) tupD_10 {a0 a1 a2 a3 a4 a5 a6 a7 a8 a9 : D} {i : Int} {μ : Mem} {Q : QM} : Step (rdIx (.tup [a0, a1, a2, a3, a4, a5, a6, a7, a8, a9]) (.int i) μ Q) ((0 ≤ i ∧ i < 10) ∧ (i = 0 → Q a0 μ) ∧ (i = 1 → Q a1 μ) ∧ (i = 2 → Q a2 μ) ∧ (i = 3 → Q a3 μ) ∧ (i = 4 → Q a4 μ) ∧ (i = 5 → Q a5 μ) ∧ (i = 6 → Q a6 μ) ∧ (i = 7 → Q a7 μ) ∧ (i = 8 → Q a8 μ) ∧ (i = 9 → Q a9 μ)) := ⟨fun h => ix_allT (l := [a0, a1, a2, a3, a4, a5, a6, a7, a8, a9]) h.1 h.2⟩
instance (priority := low - 1) tupD_11 {a0 a1 a2 a3 a4 a5 a6 a7 a8 a9 a10 : D} {i : Int} {μ : Mem} {Q : QM} : Step (rdIx (.tup [a0, a1, a2, a3, a4, a5, a6, a7, a8, a9, a10]) (.int i) μ Q) ((0 ≤ i ∧ i < 11) ∧ (i = 0 → Q a0 μ) ∧ (i = 1 → Q a1 μ) ∧ (i = 2 → Q a2 μ) ∧ (i = 3 → Q a3 μ) ∧ (i = 4 → Q a4 μ) ∧ (i = 5 → Q a5 μ) ∧ (i = 6 → Q a6 μ) ∧ (i = 7 → Q a7 μ) ∧ (i = 8 → Q a8 μ) ∧ (i = 9 → Q a9 μ) ∧ (i = 10 → Q a10 μ)) := ⟨fun h => ix_allT (l := [a0, a1, a2, a3, a4, a5, a6, a7, a8, a9, a10]) h.1 h.2⟩
instance (priority := low - 1) tupD_12 {a0 a1 a2 a3 a4 a5 a6 a7 a8 a9 a10 a11 : D} {i : Int} {μ : Mem} {Q : QM} : Step (rdIx (.tup [a0, a1, a2, a3, a4, a5, a6, a7, a8, a9, a10, a11]) (.int i) μ Q) ((0 ≤ i ∧ i < 12) ∧ (i = 0 → Q a0 μ) ∧ (i = 1 → Q a1 μ) ∧ (i = 2 → Q a2 μ) ∧ (i = 3 → Q a3 μ) ∧ (i = 4 → Q a4 μ) ∧ (i = 5 → Q a5 μ) ∧ (i = 6 → Q a6 μ) ∧ (i = 7 → Q a7 μ) ∧ (i = 8 → Q a8 μ) ∧ (i = 9 → Q a9 μ) ∧ (i = 10 → Q a10 μ) ∧ (i = 11 → Q a11 μ)) := ⟨fun h => ix_allT (l := [a0, a1, a2, a3, a4, a5, a6, a7, a8, a9, a10, a11]) h.1 h.2⟩
instance (priority := low - 1) tupD_13 {a0 a1 a2 a3 a4 a5 a6 a7 a8 a9 a10 a11 a12 : D} {i : Int} {μ : Mem} {Q : QM} : Step (rdIx (.tup [a0, a1, a2, a3, a4, a5, a6, a7, a8, a9, a10, a11, a12]) (.int i) μ Q) ((0 ≤ i ∧ i < 13) ∧ (i = 0 → Q a0 μ) ∧ (i = 1 → Q a1 μ) ∧ (i = 2 → Q a2 μ) ∧ (i = 3 → Q a3 μ) ∧ (i = 4 → Q a4 μ) ∧ (i = 5 → Q a5 μ) ∧ (i = 6 → Q a6 μ) ∧ (i = 7 → Q a7 μ) ∧ (i = 8 → Q a8 μ) ∧ (i = 9 → Q a9 μ) ∧ (i = 10 → Q a10 μ) ∧ (i = 11 → Q a11 μ) ∧ (i = 12 → Q a12 μ)) := ⟨fun h => ix_allT (l := [a0, a1, a2, a3, a4, a5, a6, a7, a8, a9, a10, a11, a12]) h.1 h.2⟩
instance (priority := low - 1) tupD_14 {a0 a1 a2 a3 a4 a5 a6 a7 a8 a9 a10 a11 a12 a13 : D} {i : Int} {μ : Mem} {Q : QM} : Step (rdIx (.tup [a0, a1, a2, a3, a4, a5, a6, a7, a8, a9, a10, a11, a12, a13]) (.int i) μ Q) ((0 ≤ i ∧ i < 14) ∧ (i = 0 → Q a0 μ) ∧ (i = 1 → Q a1 μ) ∧ (i = 2 → Q a2 μ) ∧ (i = 3 → Q a3 μ) ∧ (i = 4 → Q a4 μ) ∧ (i = 5 → Q a5 μ) ∧ (i = 6 → Q a6 μ) ∧ (i = 7 → Q a7 μ) ∧ (i = 8 → Q a8 μ) ∧ (i = 9 → Q a9 μ) ∧ (i = 10 → Q a10 μ) ∧ (i = 11 → Q a11 μ) ∧ (i = 12 → Q a12 μ) ∧ (i = 13 → Q a13 μ)) := ⟨fun h => ix_allT (l := [a0, a1, a2, a3, a4, a5, a6, a7, a8, a9, a10, a11, a12, a13]) h.1 h.2⟩
instance tupcat_0_1 {b0 : D} {μ : Mem} {Q : QM} : Step (rdAdd (.tup []) (.tup [b0]) μ Q) (Q (.tup [b0]) μ) := ⟨fun h => i_addT (i := []) (j := [b0]) (by show 1 ≤ sizeLine; decide) h⟩
instance tupcat_0_2 {b0 b1 : D} {μ : Mem} {Q : QM} : Step (rdAdd (.tup []) (.tup [b0, b1]) μ Q) (Q (.tup [b0, b1]) μ) := ⟨fun h => i_addT (i := []) (j := [b0, b1]) (by show 2 ≤ sizeLine; decide) h⟩
instance tupcat_0_3 {b0 b1 b2 : D} {μ : Mem} {Q : QM} : Step (rdAdd (.tup []) (.tup [b0, b1, b2]) μ Q) (Q (.tup [b0, b1, b2]) μ) := ⟨fun h => i_addT (i := []) (j := [b0, b1, b2]) (by show 3 ≤ sizeLine; decide) h⟩
instance tupcat_0_4 {b0 b1 b2 b3 : D} {μ : Mem} {Q : QM} : Step (rdAdd (.tup []) (.tup [b0, b1, b2, b3]) μ Q) (Q (.tup [b0, b1, b2, b3]) μ) := ⟨fun h => i_addT (i := []) (j := [b0, b1, b2, b3]) (by show 4 ≤ sizeLine; decide) h⟩
instance tupcat_0_5 {b0 b1 b2 b3 b4 : D} {μ : Mem} {Q : QM} : Step (rdAdd (.tup []) (.tup [b0, b1, b2, b3, b4]) μ Q) (Q (.tup [b0, b1, b2, b3, b4]) μ) := ⟨fun h => i_addT (i := []) (j := [b0, b1, b2, b3, b4]) (by show 5 ≤ sizeLine; decide) h⟩
instance tupcat_1_0 {a0 : D} {μ : Mem} {Q : QM} : Step (rdAdd (.tup [a0]) (.tup []) μ Q) (Q (.tup [a0]) μ) := ⟨fun h => i_addT (i := [a0]) (j := []) (by show 1 ≤ sizeLine; decide) h⟩
instance tupcat_1_1 {a0 b0 : D} {μ : Mem} {Q : QM} : Step (rdAdd (.tup [a0]) (.tup [b0]) μ Q) (Q (.tup [a0, b0]) μ) := ⟨fun h => i_addT (i := [a0]) (j := [b0]) (by show 2 ≤ sizeLine; decide) h⟩
instance tupcat_1_2 {a0 b0 b1 : D} {μ : Mem} {Q : QM} : Step (rdAdd (.tup [a0]) (.tup [b0, b1]) μ Q) (Q (.tup [a0, b0, b1]) μ) := ⟨fun h => i_addT (i := [a0]) (j := [b0, b1]) (by show 3 ≤ sizeLine; decide) h⟩
instance tupcat_1_3 {a0 b0 b1 b2 : D} {μ : Mem} {Q : QM} : Step (rdAdd (.tup [a0]) (.tup [b0, b1, b2]) μ Q) (Q (.tup [a0, b0, b1, b2]) μ) := ⟨fun h => i_addT (i := [a0]) (j := [b0, b1, b2]) (by show 4 ≤ sizeLine; decide) h⟩
instance tupcat_1_4 {a0 b0 b1 b2 b3 : D} {μ : Mem} {Q : QM} : Step (rdAdd (.tup [a0]) (.tup [b0, b1, b2, b3]) μ Q) (Q (.tup [a0, b0, b1, b2, b3]) μ) := ⟨fun h => i_addT (i := [a0]) (j := [b0, b1, b2, b3]) (by show 5 ≤ sizeLine; decide) h⟩
instance tupcat_1_5 {a0 b0 b1 b2 b3 b4 : D} {μ : Mem} {Q : QM} : Step (rdAdd (.tup [a0]) (.tup [b0, b1, b2, b3, b4]) μ Q) (Q (.tup [a0, b0, b1, b2, b3, b4]) μ) := ⟨fun h => i_addT (i := [a0]) (j := [b0, b1, b2, b3, b4]) (by show 6 ≤ sizeLine; decide) h⟩
instance tupcat_2_0 {a0 a1 : D} {μ : Mem} {Q : QM} : Step (rdAdd (.tup [a0, a1]) (.tup []) μ Q) (Q (.tup [a0, a1]) μ) := ⟨fun h => i_addT (i := [a0, a1]) (j := []) (by show 2 ≤ sizeLine; decide) h⟩
instance tupcat_2_1 {a0 a1 b0 : D} {μ : Mem} {Q : QM} : Step (rdAdd (.tup [a0, a1]) (.tup [b0]) μ Q) (Q (.tup [a0, a1, b0]) μ) := ⟨fun h => i_addT (i := [a0, a1]) (j := [b0]) (by show 3 ≤ sizeLine; decide) h⟩
instance tupcat_2_2 {a0 a1 b0 b1 : D} {μ : Mem} {Q : QM} : Step (rdAdd (.tup [a0, a1]) (.tup [b0, b1]) μ Q) (Q (.tup [a0, a1, b0, b1]) μ) := ⟨fun h => i_addT (i := [a0, a1]) (j := [b0, b1]) (by show 4 ≤ sizeLine; decide) h⟩
instance tupcat_2_3 {a0 a1 b0 b1 b2 : D} {μ : Mem} {Q : QM} : Step (rdAdd (.tup [a0, a1]) (.tup [b0, b1, b2]) μ Q) (Q (.tup [a0, a1, b0, b1, b2]) μ) := ⟨fun h => i_addT (i := [a0, a1]) (j := [b0, b1, b2]) (by show 5 ≤ sizeLine; decide) h⟩
instance tupcat_2_4 {a0 a1 b0 b1 b2 b3 : D} {μ : Mem} {Q : QM} : Step (rdAdd (.tup [a0, a1]) (.tup [b0, b1, b2, b3]) μ Q) (Q (.tup [a0, a1, b0, b1, b2, b3]) μ) := ⟨fun h => i_addT (i := [a0, a1]) (j := [b0, b1, b2, b3]) (by show 6 ≤ sizeLine; decide) h⟩
instance tupcat_2_5 {a0 a1 b0 b1 b2 b3 b4 : D} {μ : Mem} {Q : QM} : Step (rdAdd (.tup [a0, a1]) (.tup [b0, b1, b2, b3, b4]) μ Q) (Q (.tup [a0, a1, b0, b1, b2, b3, b4]) μ) := ⟨fun h => i_addT (i := [a0, a1]) (j := [b0, b1, b2, b3, b4]) (by show 7 ≤ sizeLine; decide) h⟩
instance tupcat_3_0 {a0 a1 a2 : D} {μ : Mem} {Q : QM} : Step (rdAdd (.tup [a0, a1, a2]) (.tup []) μ Q) (Q (.tup [a0, a1, a2]) μ) := ⟨fun h => i_addT (i := [a0, a1, a2]) (j := []) (by show 3 ≤ sizeLine; decide) h⟩
instance tupcat_3_1 {a0 a1 a2 b0 : D} {μ : Mem} {Q : QM} : Step (rdAdd (.tup [a0, a1, a2]) (.tup [b0]) μ Q) (Q (.tup [a0, a1, a2, b0]) μ) := ⟨fun h => i_addT (i := [a0, a1, a2]) (j := [b0]) (by show 4 ≤ sizeLine; decide) h⟩
instance tupcat_3_2 {a0 a1 a2 b0 b1 : D} {μ : Mem} {Q : QM} : Step (rdAdd (.tup [a0, a1, a2]) (.tup [b0, b1]) μ Q) (Q (.tup [a0, a1, a2, b0, b1]) μ) := ⟨fun h => i_addT (i := [a0, a1, a2]) (j := [b0, b1]) (by show 5 ≤ sizeLine; decide) h⟩
instance tupcat_3_3 {a0 a1 a2 b0 b1 b2 : D} {μ : Mem} {Q : QM} : Step (rdAdd (.tup [a0, a1, a2]) (.tup [b0, b1, b2]) μ Q) (Q (.tup [a0, a1, a2, b0, b1, b2]) μ) := ⟨fun h => i_addT (i := [a0, a1, a2]) (j := [b0, b1, b2]) (by show 6 ≤ sizeLine; decide) h⟩
instance tupcat_3_4 {a0 a1 a2 b0 b1 b2 b3 : D} {μ : Mem} {Q : QM} : Step (rdAdd (.tup [a0, a1, a2]) (.tup [b0, b1, b2, b3]) μ Q) (Q (.tup [a0, a1, a2, b0, b1, b2, b3]) μ) := ⟨fun h => i_addT (i := [a0, a1, a2]) (j := [b0, b1, b2, b3]) (by show 7 ≤ sizeLine; decide) h⟩
instance tupcat_4_0 {a0 a1 a2 a3 : D} {μ : Mem} {Q : QM} : Step (rdAdd (.tup [a0, a1, a2, a3]) (.tup []) μ Q) (Q (.tup [a0, a1, a2, a3]) μ) := ⟨fun h => i_addT (i := [a0, a1, a2, a3]) (j := []) (by show 4 ≤ sizeLine; decide) h⟩
instance tupcat_4_1 {a0 a1 a2 a3 b0 : D} {μ : Mem} {Q : QM} : Step (rdAdd (.tup [a0, a1, a2, a3]) (.tup [b0]) μ Q) (Q (.tup [a0, a1, a2, a3, b0]) μ) := ⟨fun h => i_addT (i := [a0, a1, a2, a3]) (j := [b0]) (by show 5 ≤ sizeLine; decide) h⟩
instance tupcat_4_2 {a0 a1 a2 a3 b0 b1 : D} {μ : Mem} {Q : QM} : Step (rdAdd (.tup [a0, a1, a2, a3]) (.tup [b0, b1]) μ Q) (Q (.tup [a0, a1, a2, a3, b0, b1]) μ) := ⟨fun h => i_addT (i := [a0, a1, a2, a3]) (j := [b0, b1]) (by show 6 ≤ sizeLine; decide) h⟩
instance tupcat_4_3 {a0 a1 a2 a3 b0 b1 b2 : D} {μ : Mem} {Q : QM} : Step (rdAdd (.tup [a0, a1, a2, a3]) (.tup [b0, b1, b2]) μ Q) (Q (.tup [a0, a1, a2, a3, b0, b1, b2]) μ) := ⟨fun h => i_addT (i := [a0, a1, a2, a3]) (j := [b0, b1, b2]) (by show 7 ≤ sizeLine; decide) h⟩
instance tupcat_5_0 {a0 a1 a2 a3 a4 : D} {μ : Mem} {Q : QM} : Step (rdAdd (.tup [a0, a1, a2, a3, a4]) (.tup []) μ Q) (Q (.tup [a0, a1, a2, a3, a4]) μ) := ⟨fun h => i_addT (i := [a0, a1, a2, a3, a4]) (j := []) (by show 5 ≤ sizeLine; decide) h⟩
instance tupcat_5_1 {a0 a1 a2 a3 a4 b0 : D} {μ : Mem} {Q : QM} : Step (rdAdd (.tup [a0, a1, a2, a3, a4]) (.tup [b0]) μ Q) (Q (.tup [a0, a1, a2, a3, a4, b0]) μ) := ⟨fun h => i_addT (i := [a0, a1, a2, a3, a4]) (j := [b0]) (by show 6 ≤ sizeLine; decide) h⟩
instance tupcat_5_2 {a0 a1 a2 a3 a4 b0 b1 : D} {μ : Mem} {Q : QM} : Step (rdAdd (.tup [a0, a1, a2, a3, a4]) (.tup [b0, b1]) μ Q) (Q (.tup [a0, a1, a2, a3, a4, b0, b1]) μ) := ⟨fun h => i_addT (i := [a0, a1, a2, a3, a4]) (j := [b0, b1]) (by show 7 ≤ sizeLine; decide) h⟩
instance lstcat_0_1 {b0 : D} {μ : Mem} {Q : QM} : Step (rdAdd (.lst []) (.lst [b0]) μ Q) (Q (.lst [b0]) μ) := ⟨fun h => i_addL (i := []) (j := [b0]) (by show 1 ≤ sizeLine; decide) h⟩
instance lstcat_0_2 {b0 b1 : D} {μ : Mem} {Q : QM} : Step (rdAdd (.lst []) (.lst [b0, b1]) μ Q) (Q (.lst [b0, b1]) μ) := ⟨fun h => i_addL (i := []) (j := [b0, b1]) (by show 2 ≤ sizeLine; decide) h⟩
instance lstcat_0_3 {b0 b1 b2 : D} {μ : Mem} {Q : QM} : Step (rdAdd (.lst []) (.lst [b0, b1, b2]) μ Q) (Q (.lst [b0, b1, b2]) μ) := ⟨fun h => i_addL (i := []) (j := [b0, b1, b2]) (by show 3 ≤ sizeLine; decide) h⟩
instance lstcat_0_4 {b0 b1 b2 b3 : D} {μ : Mem} {Q : QM} : Step (rdAdd (.lst []) (.lst [b0, b1, b2, b3]) μ Q) (Q (.lst [b0, b1, b2, b3]) μ) := ⟨fun h => i_addL (i := []) (j := [b0, b1, b2, b3]) (by show 4 ≤ sizeLine; decide) h⟩
instance lstcat_0_5 {b0 b1 b2 b3 b4 : D} {μ : Mem} {Q : QM} : Step (rdAdd (.lst []) (.lst [b0, b1, b2, b3, b4]) μ Q) (Q (.lst [b0, b1, b2, b3, b4]) μ) := ⟨fun h => i_addL (i := []) (j := [b0, b1, b2, b3, b4]) (by show 5 ≤ sizeLine; decide) h⟩
instance lstcat_1_0 {a0 : D} {μ : Mem} {Q : QM} : Step (rdAdd (.lst [a0]) (.lst []) μ Q) (Q (.lst [a0]) μ) := ⟨fun h => i_addL (i := [a0]) (j := []) (by show 1 ≤ sizeLine; decide) h⟩
instance lstcat_1_1 {a0 b0 : D} {μ : Mem} {Q : QM} : Step (rdAdd (.lst [a0]) (.lst [b0]) μ Q) (Q (.lst [a0, b0]) μ) := ⟨fun h => i_addL (i := [a0]) (j := [b0]) (by show 2 ≤ sizeLine; decide) h⟩
instance lstcat_1_2 {a0 b0 b1 : D} {μ : Mem} {Q : QM} : Step (rdAdd (.lst [a0]) (.lst [b0, b1]) μ Q) (Q (.lst [a0, b0, b1]) μ) := ⟨fun h => i_addL (i := [a0]) (j := [b0, b1]) (by show 3 ≤ sizeLine; decide) h⟩
instance lstcat_1_3 {a0 b0 b1 b2 : D} {μ : Mem} {Q : QM} : Step (rdAdd (.lst [a0]) (.lst [b0, b1, b2]) μ Q) (Q (.lst [a0, b0, b1, b2]) μ) := ⟨fun h => i_addL (i := [a0]) (j := [b0, b1, b2]) (by show 4 ≤ sizeLine; decide) h⟩
instance lstcat_1_4 {a0 b0 b1 b2 b3 : D} {μ : Mem} {Q : QM} : Step (rdAdd (.lst [a0]) (.lst [b0, b1, b2, b3]) μ Q) (Q (.lst [a0, b0, b1, b2, b3]) μ) := ⟨fun h => i_addL (i := [a0]) (j := [b0, b1, b2, b3]) (by show 5 ≤ sizeLine; decide) h⟩
instance lstcat_1_5 {a0 b0 b1 b2 b3 b4 : D} {μ : Mem} {Q : QM} : Step (rdAdd (.lst [a0]) (.lst [b0, b1, b2, b3, b4]) μ Q) (Q (.lst [a0, b0, b1, b2, b3, b4]) μ) := ⟨fun h => i_addL (i := [a0]) (j := [b0, b1, b2, b3, b4]) (by show 6 ≤ sizeLine; decide) h⟩
instance lstcat_2_0 {a0 a1 : D} {μ : Mem} {Q : QM} : Step (rdAdd (.lst [a0, a1]) (.lst []) μ Q) (Q (.lst [a0, a1]) μ) := ⟨fun h => i_addL (i := [a0, a1]) (j := []) (by show 2 ≤ sizeLine; decide) h⟩
instance lstcat_2_1 {a0 a1 b0 : D} {μ : Mem} {Q : QM} : Step (rdAdd (.lst [a0, a1]) (.lst [b0]) μ Q) (Q (.lst [a0, a1, b0]) μ) := ⟨fun h => i_addL (i := [a0, a1]) (j := [b0]) (by show 3 ≤ sizeLine; decide) h⟩
instance lstcat_2_2 {a0 a1 b0 b1 : D} {μ : Mem} {Q : QM} : Step (rdAdd (.lst [a0, a1]) (.lst [b0, b1]) μ Q) (Q (.lst [a0, a1, b0, b1]) μ) := ⟨fun h => i_addL (i := [a0, a1]) (j := [b0, b1]) (by show 4 ≤ sizeLine; decide) h⟩
instance lstcat_2_3 {a0 a1 b0 b1 b2 : D} {μ : Mem} {Q : QM} : Step (rdAdd (.lst [a0, a1]) (.lst [b0, b1, b2]) μ Q) (Q (.lst [a0, a1, b0, b1, b2]) μ) := ⟨fun h => i_addL (i := [a0, a1]) (j := [b0, b1, b2]) (by show 5 ≤ sizeLine; decide) h⟩
instance lstcat_2_4 {a0 a1 b0 b1 b2 b3 : D} {μ : Mem} {Q : QM} : Step (rdAdd (.lst [a0, a1]) (.lst [b0, b1, b2, b3]) μ Q) (Q (.lst [a0, a1, b0, b1, b2, b3]) μ) := ⟨fun h => i_addL (i := [a0, a1]) (j := [b0, b1, b2, b3]) (by show 6 ≤ sizeLine; decide) h⟩
instance lstcat_2_5 {a0 a1 b0 b1 b2 b3 b4 : D} {μ : Mem} {Q : QM} : Step (rdAdd (.lst [a0, a1]) (.lst [b0, b1, b2, b3, b4]) μ Q) (Q (.lst [a0, a1, b0, b1, b2, b3, b4]) μ) := ⟨fun h => i_addL (i := [a0, a1]) (j := [b0, b1, b2, b3, b4]) (by show 7 ≤ sizeLine; decide) h⟩
instance lstcat_3_0 {a0 a1 a2 : D} {μ : Mem} {Q : QM} : Step (rdAdd (.lst [a0, a1, a2]) (.lst []) μ Q) (Q (.lst [a0, a1, a2]) μ) := ⟨fun h => i_addL (i := [a0, a1, a2]) (j := []) (by show 3 ≤ sizeLine; decide) h⟩
instance lstcat_3_1 {a0 a1 a2 b0 : D} {μ : Mem} {Q : QM} : Step (rdAdd (.lst [a0, a1, a2]) (.lst [b0]) μ Q) (Q (.lst [a0, a1, a2, b0]) μ) := ⟨fun h => i_addL (i := [a0, a1, a2]) (j := [b0]) (by show 4 ≤ sizeLine; decide) h⟩
instance lstcat_3_2 {a0 a1 a2 b0 b1 : D} {μ : Mem} {Q : QM} : Step (rdAdd (.lst [a0, a1, a2]) (.lst [b0, b1]) μ Q) (Q (.lst [a0, a1, a2, b0, b1]) μ) := ⟨fun h => i_addL (i := [a0, a1, a2]) (j := [b0, b1]) (by show 5 ≤ sizeLine; decide) h⟩
instance lstcat_3_3 {a0 a1 a2 b0 b1 b2 : D} {μ : Mem} {Q : QM} : Step (rdAdd (.lst [a0, a1, a2]) (.lst [b0, b1, b2]) μ Q) (Q (.lst [a0, a1, a2, b0, b1, b2]) μ) := ⟨fun h => i_addL (i := [a0, a1, a2]) (j := [b0, b1, b2]) (by show 6 ≤ sizeLine; decide) h⟩
instance lstcat_3_4 {a0 a1 a2 b0 b1 b2 b3 : D} {μ : Mem} {Q : QM} : Step (rdAdd (.lst [a0, a1, a2]) (.lst [b0, b1, b2, b3]) μ Q) (Q (.lst [a0, a1, a2, b0, b1, b2, b3]) μ) := ⟨fun h => i_addL (i := [a0, a1, a2]) (j := [b0, b1, b2, b3]) (by show 7 ≤ sizeLine; decide) h⟩
instance lstcat_4_0 {a0 a1 a2 a3 : D} {μ : Mem} {Q : QM} : Step (rdAdd (.lst [a0, a1, a2, a3]) (.lst []) μ Q) (Q (.lst [a0, a1, a2, a3]) μ) := ⟨fun h => i_addL (i := [a0, a1, a2, a3]) (j := []) (by show 4 ≤ sizeLine; decide) h⟩
instance lstcat_4_1 {a0 a1 a2 a3 b0 : D} {μ : Mem} {Q : QM} : Step (rdAdd (.lst [a0, a1, a2, a3]) (.lst [b0]) μ Q) (Q (.lst [a0, a1, a2, a3, b0]) μ) := ⟨fun h => i_addL (i := [a0, a1, a2, a3]) (j := [b0]) (by show 5 ≤ sizeLine; decide) h⟩
instance lstcat_4_2 {a0 a1 a2 a3 b0 b1 : D} {μ : Mem} {Q : QM} : Step (rdAdd (.lst [a0, a1, a2, a3]) (.lst [b0, b1]) μ Q) (Q (.lst [a0, a1, a2, a3, b0, b1]) μ) := ⟨fun h => i_addL (i := [a0, a1, a2, a3]) (j := [b0, b1]) (by show 6 ≤ sizeLine; decide) h⟩
instance lstcat_4_3 {a0 a1 a2 a3 b0 b1 b2 : D} {μ : Mem} {Q : QM} : Step (rdAdd (.lst [a0, a1, a2, a3]) (.lst [b0, b1, b2]) μ Q) (Q (.lst [a0, a1, a2, a3, b0, b1, b2]) μ) := ⟨fun h => i_addL (i := [a0, a1, a2, a3]) (j := [b0, b1, b2]) (by show 7 ≤ sizeLine; decide) h⟩
instance lstcat_5_0 {a0 a1 a2 a3 a4 : D} {μ : Mem} {Q : QM} : Step (rdAdd (.lst [a0, a1, a2, a3, a4]) (.lst []) μ Q) (Q (.lst [a0, a1, a2, a3, a4]) μ) := ⟨fun h => i_addL (i := [a0, a1, a2, a3, a4]) (j := []) (by show 5 ≤ sizeLine; decide) h⟩
instance lstcat_5_1 {a0 a1 a2 a3 a4 b0 : D} {μ : Mem} {Q : QM} : Step (rdAdd (.lst [a0, a1, a2, a3, a4]) (.lst [b0]) μ Q) (Q (.lst [a0, a1, a2, a3, a4, b0]) μ) := ⟨fun h => i_addL (i := [a0, a1, a2, a3, a4]) (j := [b0]) (by show 6 ≤ sizeLine; decide) h⟩
instance lstcat_5_2 {a0 a1 a2 a3 a4 b0 b1 : D} {μ : Mem} {Q : QM} : Step (rdAdd (.lst [a0, a1, a2, a3, a4]) (.lst [b0, b1]) μ Q) (Q (.lst [a0, a1, a2, a3, a4, b0, b1]) μ) := ⟨fun h => i_addL (i := [a0, a1, a2, a3, a4]) (j := [b0, b1]) (by show 7 ≤ sizeLine; decide) h⟩
end Dl

namespace Dl
open PySem PySem.Spec PyProof.Rows L2
variable {X : Cx} {K : PySem.W.Frag} {Z : Bs}
theorem Fresh.less {B : Bs} {S : Hp} {μ : Mem} {H : Hp} {σ : L2.St} {δ : Ss} {p q : Addr} {o : HO} {m : MO} (f : Fresh { B with F := updF B.F p m } S μ H σ δ q o) : Fresh B S μ H σ δ q o ∧ q ≠ p := by
  have h := f.f
  have h : updF B.F p m q = none := h
  unfold updF at h
  have hne : q ≠ p := fun z => by rw [if_pos z] at h; cases h
  rw [if_neg hne] at h
  exact ⟨⟨f.b, f.s, f.m, f.h, f.d, h⟩, hne⟩
theorem Fresh.set {B : Bs} {S : Hp} {μ : Mem} {H : Hp} {σ : L2.St} {δ : Ss} {p q : Addr} {o : HO} {n : MO} {i : Nat} (f : Fresh B S μ H σ δ q o) (hne : q ≠ p) : Fresh B S μ H (σ.set i (some (.ref p))) (δ.set i (.own n)) q o :=
  ⟨f.b, f.s, f.m, f.h, fun k n' e z => by
    by_cases hk : i = k
    · subst hk
      by_cases hl : i < σ.length
      · rw [List.getElem?_set_self hl] at z
        cases z
        exact hne rfl
      · rw [List.getElem?_eq_none (by rw [List.length_set]; omega)] at z
        cases z
    · rw [List.getElem?_set_ne hk] at e z
      exact f.d k n' e z, f.f⟩
/-- a, b, c = x, y, z: all of them lists that are then changed -/
def dPar3F (i j l : Nat) (df dg dh : DF) : DS := fun DD δ μ => df δ μ fun m δ1 μ1 => dg δ1 μ1 fun n δ2 μ2 => dh δ2 μ2 fun o δ3 μ3 => DD.nx (((δ3.set i (.own m)).set j (.own n)).set l (.own o)) μ3
theorem s_par3F {i j l : Nat} {x y z : Str} {a b c : Expr} {ta tb tc : TE} {df dg dh : DF} {px py pz pt pos : Pos} {kt k2 pt2} (hN : X.N.Nodup) (ha : PDF K Z X a ta df) (hb : PDF K Z X b tb dg) (hd : PDF K Z X c tc dh) (hij : i ≠ j := by decide) (hil : i ≠ l := by decide) (hjl : j ≠ l := by decide) (hi : X.N[i]? = some x := by rfl) (hj : X.N[j]? = some y := by rfl) (hl : X.N[l]? = some z := by rfl) (hx : X.env.scope.names.lookup x = some .local := by rfl) (hy : X.env.scope.names.lookup y = some .local := by rfl) (hz : X.env.scope.names.lookup z = some .local := by rfl)
    (hw : swappedStores [.Tuple [.Name x px, .Name y py, .Name z pz] kt pt] (.Tuple [a, b, c] k2 pt2) X.env = pure (some [x, y, z]) := by rfl) (hs : swapsWithSole [.Tuple [.Name x px, .Name y py, .Name z pz] kt pt] (.Tuple [a, b, c] k2 pt2) pos.line X.env = pure false := by rfl) (hc : X.calm = true := by rfl)
    (h1 : starEach [a, b, c] X.env = (false, eval a X.env) :: starEach [b, c] X.env := by rfl) (h2 : starEach [b, c] X.env = (false, eval b X.env) :: starEach [c] X.env := by rfl) (h3 : starEach [c] X.env = (false, eval c X.env) :: starEach [] X.env := by rfl) :
    PDS K Z X (.Assign [.Tuple [.Name x px, .Name y py, .Name z pz] kt pt] (.Tuple [a, b, c] k2 pt2) pos) (tPar3 i j l (tCons ta (tCons tb (tCons tc tNil)))) (dPar3F i j l df dg dh) :=
  ⟨ps_par3 hc hN hi hj hl hij hil hjl hx hy hz (pa_cons ha.p (pa_cons hb.p (pa_cons hd.p pa_nil h3) h2) h1) hw hs, fun B hB S μ H σ δ E DD rl lf q => by
    refine ha.s B hB S μ H σ δ _ _ rl (fun S1 μ1 H1 δ1 p o m e1 r1 f hm q1 => ?_) q
    refine hb.s { B with F := updF B.F p m } (hB.aside f.f) S1 μ1 H1 σ δ1 _ _ (r1.aside f hm) (fun S2 μ2 H2 δ2 p2 o2 n e2 r2 f2 hn q2 => ?_) q1
    refine hd.s { B with F := updF (updF B.F p m) p2 n } ((hB.aside f.f).aside f2.f) S2 μ2 H2 σ δ2 _ _ (r2.aside f2 hn) (fun S3 μ3 H3 δ3 p3 o3 k e3 r3 f3 hk q3 => ?_) q2
    obtain ⟨r4, o4, f4, hm4⟩ := Rel.again (B := { B with F := updF B.F p m }) f2.f r3
    obtain ⟨r5, o5, f5, hm5⟩ := Rel.again (B := B) f.f r4
    obtain ⟨f6, n6⟩ := Fresh.less (B := B) f4
    obtain ⟨f7, n7⟩ := Fresh.less (B := { B with F := updF B.F p m }) f3
    obtain ⟨f8, n8⟩ := Fresh.less (B := B) f7
    refine ⟨.ref p, .ref p2, .ref p3, rfl, lf.nx S3 μ3 H3 _ _ (((r5.ownF f5 hm5).ownF (f6.set n6) hm4).ownF ((f8.set n8).set n7) hk) q3⟩⟩

theorem RepL.strs {S : Hp} : ∀ {ns : List Str}, RepL K S (ns.map D.str) (ns.map V.str)
  | [] => rfl
  | n :: ns => ⟨_, _, rfl, rfl, RepL.strs⟩
/-! ### reversed -/
def RevI (d : D) (R : List D → Prop) : Prop := ∃ l, (d = .tup l ∨ d = .lst l) ∧ R l.reverse
def diRev (de : DE) : DI := fun δ μ Q => de δ μ fun d δ1 μ1 => RevI d fun l => Q l (fun _ => True) δ1 μ1
theorem rev_at {l : List D} {i : Nat} {d : D} (h : l.reverse[i]? = some d) : i < l.length ∧ l[l.length - 1 - i]? = some d := by
  have hi : i < l.length := by
    have := (List.getElem?_eq_some_iff.mp h).1
    rwa [List.length_reverse] at this
  rw [List.getElem?_reverse hi] at h
  exact ⟨hi, h⟩
theorem wk_revT {S : Hp} {a : Addr} {vs : List V} {l : List D} (h1 : SqT K S a vs) (h2 : RepL K S l vs) : Wk K S (RT.ItvT K a vs.length) l.reverse (fun _ => True) where
  goes := fun S' μ H i e r _ hi => by
    rw [List.length_reverse] at hi
    have hi' : i < vs.length := by rw [RepL.length h2]; exact hi
    exact ⟨hi', vs, vs[vs.length - 1 - i], exr_t r.ex (ex_t e h1), by rw [List.getElem?_eq_getElem]⟩
  stops := fun S' μ H e r _ => by rw [List.length_reverse, ← RepL.length h2]; exact Nat.le_refl _
  yields := fun S' μ H i d x H' e r _ hd y => by
    obtain ⟨rfl, y⟩ := y
    have y := y vs (exr_t r.ex (ex_t e h1))
    obtain ⟨hi, hd⟩ := rev_at hd
    obtain ⟨v, e1, hv⟩ := RepL.get h2 hd
    rw [RepL.length h2, e1] at y
    cases y
    exact ⟨S', Grow.refl, r, Rep.mono e _ _ hv⟩
theorem wk_revL {S : Hp} {a : Addr} {vs : List V} {l : List D} (h1 : SqL K S a vs) (h2 : RepL K S l vs) : Wk K S (Itv K a vs.length) l.reverse (fun _ => True) where
  goes := fun S' μ H i e r _ hi => by
    rw [List.length_reverse] at hi
    have hi' : i < vs.length := by rw [RepL.length h2]; exact hi
    exact ⟨hi', vs, vs[vs.length - 1 - i], exr_l r.ex (ex_l e h1), by rw [List.getElem?_eq_getElem]⟩
  stops := fun S' μ H e r _ => by rw [List.length_reverse, ← RepL.length h2]; exact Nat.le_refl _
  yields := fun S' μ H i d x H' e r _ hd y => by
    obtain ⟨rfl, y⟩ := y
    have y := y vs (exr_l r.ex (ex_l e h1))
    obtain ⟨hi, hd⟩ := rev_at hd
    obtain ⟨v, e1, hv⟩ := RepL.get h2 hd
    rw [RepL.length h2, e1] at y
    cases y
    exact ⟨S', Grow.refl, r, Rep.mono e _ _ hv⟩
theorem i_rev {tg e : Expr} {te : TE} {de : DE} {p pos : Pos} (hg : Gl X "reversed") (hm : X.mg "reversed" = none) (h : PD K Z X e te de) (hs : starEach [e] X.env = (false, eval e X.env) :: starEach [] X.env := by rfl) (hk : X.K = K := by rfl) : PDI K Z X tg (.Call (.Name "reversed" p) [e] [] pos) (RT.iRevA K te) (diRev de) := by
  subst hk
  exact ⟨RT.pi_revA hg hm h.p hs, fun B hB S μ H σ δ Q QD rl k q => by
    refine h.s B hB S μ H σ δ _ _ rl (fun S1 μ1 H1 δ1 v d e1 r1 hv q1 => ?_) q
    obtain ⟨l, rfl | rfl, q1⟩ := q1
    · obtain ⟨a, vs, rfl, hl, h2⟩ := hv
      exact ⟨a, vs, rfl, .inr ⟨exr_t r1.r3.ex (SqT.of hl), k S1 μ1 H1 δ1 _ _ _ e1 r1 (wk_revT (SqT.of hl) h2) q1⟩⟩
    · obtain ⟨a, vs, rfl, hl, h2⟩ := hv
      exact ⟨a, vs, rfl, .inl ⟨SqL.of (exr_lst r1.r3.ex hl), k S1 μ1 H1 δ1 _ _ _ e1 r1 (wk_revL (SqL.of hl) h2) q1⟩⟩⟩
/-! ### texts with values in them -/
def FmtI (d : D) (R : D → Prop) : Prop := (∃ y : Str, d = .str y ∧ y.length ≤ sizeLine ∧ R (.str y)) ∨ ∃ i : Int, d = .int i ∧ i.natAbs.log2 < 1920 ∧ R (.str (toString i))
def dFmt (de : DE) : DE := fun δ μ Q => de δ μ fun d δ1 μ1 => FmtI d fun z => Q z δ1 μ1
theorem d_fmt {e : Expr} {te : TE} {de : DE} {pos : Pos} (h : PD K Z X e te de) : PD K Z X (.FormattedValue e (-1) none pos) (tFmt te) (dFmt de) :=
  ⟨pe_fmt h.p, fun B hB S μ H σ δ Q QD rl k q => by
    refine h.s B hB S μ H σ δ _ _ rl (fun S1 μ1 H1 δ1 v d e1 r1 hv q1 => ?_) q
    rcases q1 with ⟨y, rfl, hz, q1⟩ | ⟨i, rfl, hz, q1⟩
    · exact .inl ⟨y, hv, hz, k S1 μ1 H1 δ1 _ (.str y) e1 r1 rfl q1⟩
    · exact .inr ⟨i, hv, hz, k S1 μ1 H1 δ1 _ (.str (toString i)) e1 r1 rfl q1⟩⟩
def StrI (d : D) (R : Str → Prop) : Prop := ∃ y : Str, d = .str y ∧ R y
def dJs : List DE → Str → Ss → Mem → (Str → Ss → Mem → Prop) → Prop
  | [], acc, δ, μ, Q => Q acc δ μ
  | d :: ds, acc, δ, μ, Q => d δ μ fun x δ1 μ1 => StrI x fun y => (acc ++ y).length ≤ sizeLine ∧ dJs ds (acc ++ y) δ1 μ1 Q
inductive PDJ (K : PySem.W.Frag) (Z : Bs) (X : Cx) : List Expr → List TE → List DE → Prop where
  | nil : PDJ K Z X [] [] []
  | cons {e : Expr} {t : TE} {d : DE} {es : List Expr} {ts : List TE} {ds : List DE} (h : PD K Z X e t d) (r : PDJ K Z X es ts ds) : PDJ K Z X (e :: es) (t :: ts) (d :: ds)
theorem PDJ.p {es : List Expr} {ts : List TE} {ds : List DE} (h : PDJ K Z X es ts ds) : PJ X es ts := by
  induction h with
  | nil => exact .nil
  | cons h _ ih => exact .cons h.p ih
theorem PDJ.s {es : List Expr} {ts : List TE} {ds : List DE} (h : PDJ K Z X es ts ds) : ∀ (acc : Str) (B : Bs) (_ : SameB Z B) (S : Hp) (μ : Mem) (H : Hp) (σ : L2.St) (δ : Ss) (Q : Str → Hp → Prop) (QD : Str → Ss → Mem → Prop), Rel K B S μ H σ δ →
    (∀ S' μ' H' δ' z, Ex S S' → Rel K B S' μ' H' σ δ' → QD z δ' μ' → Q z H') → dJs ds acc δ μ QD → tJs ts acc σ H Q := by
  induction h with
  | nil => intro acc B hB S μ H σ δ Q QD rl k q; exact k S μ H δ acc (Ex.refl S) rl q
  | cons h _ ih =>
    intro acc B hB S μ H σ δ Q QD rl k q
    refine h.s B hB S μ H σ δ _ _ rl (fun S1 μ1 H1 δ1 v d e1 r1 hv q1 => ?_) q
    obtain ⟨y, rfl, hz, q1⟩ := q1
    exact ⟨y, hv, hz, ih (acc ++ y) B hB S1 μ1 H1 σ δ1 Q QD r1 (fun S2 μ2 H2 δ2 z e2 r2 q2 => k S2 μ2 H2 δ2 z (e1.trans e2) r2 q2) q1⟩
def dJoined (ds : List DE) : DE := fun δ μ Q => dJs ds Str.empty δ μ fun out δ1 μ1 => Q (.str out) δ1 μ1
theorem d_joined {v1 v2 : Expr} {rest : List Expr} {ts : List TE} {ds : List DE} {pos : Pos} (h : PDJ K Z X (v1 :: v2 :: rest) ts ds) : PD K Z X (.JoinedStr (v1 :: v2 :: rest) pos) (fun σ H Q => tJs ts Str.empty σ H fun out H1 => Q (.str out) H1) (dJoined ds) :=
  ⟨pe_joined h.p, fun B hB S μ H σ δ Q QD rl k q => h.s Str.empty B hB S μ H σ δ _ _ rl (fun S1 μ1 H1 δ1 z e1 r1 q1 => k S1 μ1 H1 δ1 _ (.str z) e1 r1 rfl q1) q⟩
theorem d_joined1 {e : Expr} {te : TE} {de : DE} {pos : Pos} (h : PD K Z X e te de) : PD K Z X (.JoinedStr [e] pos) te de := ⟨pe_joined1 h.p, h.s⟩
theorem empty_app (z : Str) : Str.empty ++ z = z := TL.ext_tl (by rw [TL.tl_append]; rfl)
/-! ### methods of texts -/
section
variable {o e : Expr} {es : List Expr} {apos cpos : Pos} {to : TE} {ta : TA} {do_ : DE} {da : DA} {name : Str} {id : String} {r : V → List V → Hp → VK → Prop} {dr : D → List D → Mem → QM → Prop}
theorem d_strM (slot : Slot "str" name id) (hty : typeOf (.builtin id) = pure (.type "method_descriptor")) (hm : MtR X id r) (hr : SimM K r dr) (ho : PD K Z X o to do_) (ha : PDA K Z X (e :: es) ta da) (hbase : attributeBase o name X.env (eval o X.env) = eval o X.env := by rfl)
    (hfew : ((backTo cpos (starEach (e :: es) X.env)).all (fun x => !x.1) && (backToKw cpos (keywordEach [] X.env)).all (fun x => x.1.isSome) && decide ((e :: es).length + ([] : List Keyword).length + (if ([] : List Keyword).isEmpty then 0 else 1) < 30)) = true := by rfl)
    (hline : (apos.endLine == cpos.line) = true := by rfl) (hs : starEach (e :: es) X.env = (false, eval e X.env) :: starEach es X.env := by rfl) (hplain : (backTo cpos (starEach es X.env)).any (·.1) = false := by rfl) (hk : X.K = K := by rfl) :
    PD K Z X (.Call (.Attribute o name apos) (e :: es) [] cpos) (tBM K "str" r to ta) (dBMs dr do_ da) := by
  subst hk
  exact ⟨pe_bm PySem.F.plainAttrs_str slot hty hm ho.p ha.p hbase hfew hline hs hplain, simBMs hr ho.s ha.s⟩
def dBMs0 (r : D → List D → Mem → QM → Prop) (do_ : DE) : DE := fun δ μ Q => do_ δ μ fun x δ1 μ1 => isStr x ∧ r x [] μ1 fun d μ2 => Q d δ1 μ2
theorem d_strM0 (slot : Slot "str" name id) (hty : typeOf (.builtin id) = pure (.type "method_descriptor")) (hm : MtR X id r) (hr : SimM K r dr) (ho : PD K Z X o to do_) (hbase : attributeBase o name X.env (eval o X.env) = eval o X.env := by rfl)
    (hline : (apos.endLine == cpos.line) = true := by rfl) (hk : X.K = K := by rfl) :
    PD K Z X (.Call (.Attribute o name apos) [] [] cpos) (tBM0 K "str" r to) (dBMs0 dr do_) := by
  subst hk
  exact ⟨pe_bm0 PySem.F.plainAttrs_str slot hty hm ho.p hbase hline, fun B hB S μ H σ δ Q QD rl k q => by
    refine ho.s B hB S μ H σ δ _ _ rl (fun S1 μ1 H1 δ1 x dx e1 r1 hx q1 => ?_) q
    obtain ⟨⟨z, rfl⟩, q1⟩ := q1
    have hx' : x = .str z := hx
    refine ⟨by rw [hx']; rfl, ?_⟩
    exact hr S1 μ1 H1 x [] _ [] _ _ r1.r3 hx rfl (fun S3 μ3 H3 v d g r3 hv q3 => k S3 μ3 H3 δ1 v d (e1.trans g.ex) (r1.grow g r3) hv q3) q1⟩
end
def rdSplit : D → List D → Mem → QM → Prop := fun x xs μ Q => ∃ a b : Str, x = .str a ∧ xs = [.str b] ∧ (b.length == 0) = false ∧ a.length + 2 ≤ sizeLine ∧ Q (.lst ((Txt.split a b).map .str)) μ
theorem sim_split : SimM K (fun x xs H Q => ∃ a b, x = .str a ∧ xs = [.str b] ∧ (b.length == 0) = false ∧ a.length + 2 ≤ sizeLine ∧ rNewStrs (Txt.split a b) H Q) rdSplit := fun S μ H x xs dx ds Q QD r hx hs k q => by
  obtain ⟨a, b, rfl, rfl, h1, h2, q⟩ := q
  obtain ⟨v, rfl, hv⟩ := RepL.one' hs
  refine ⟨a, b, hx, by rw [show v = .str b from hv], h1, h2, fun p hp => ?_⟩
  obtain ⟨r3, g⟩ := r.alloc (o := .lst ((Txt.split a b).map V.str)) hp
  exact k _ μ _ _ (.lst ((Txt.split a b).map .str)) g r3 ⟨p, _, rfl, upd_same, RepL.strs⟩ q
def rdFind : D → List D → Mem → QM → Prop := fun x xs μ Q => ∃ a b : Str, x = .str a ∧ xs = [.str b] ∧ Q (.int (Txt.find a b)) μ
theorem sim_find : SimM K (fun x xs H Q => ∃ a b, x = .str a ∧ xs = [.str b] ∧ Q (.int (Txt.find a b)) H) rdFind := fun S μ H x xs dx ds Q QD r hx hs k q => by
  obtain ⟨a, b, rfl, rfl, q⟩ := q
  obtain ⟨v, rfl, hv⟩ := RepL.one' hs
  exact ⟨a, b, hx, by rw [show v = .str b from hv], k S μ H _ (.int (Txt.find a b)) Grow.refl r rfl q⟩
def rdRfind : D → List D → Mem → QM → Prop := fun x xs μ Q => ∃ a b : Str, x = .str a ∧ xs = [.str b] ∧ Q (.int (Txt.rfind a b)) μ
theorem sim_rfind : SimM K (fun x xs H Q => ∃ a b, x = .str a ∧ xs = [.str b] ∧ Q (.int (Txt.rfind a b)) H) rdRfind := fun S μ H x xs dx ds Q QD r hx hs k q => by
  obtain ⟨a, b, rfl, rfl, q⟩ := q
  obtain ⟨v, rfl, hv⟩ := RepL.one' hs
  exact ⟨a, b, hx, by rw [show v = .str b from hv], k S μ H _ (.int (Txt.rfind a b)) Grow.refl r rfl q⟩
def rdUpper : D → List D → Mem → QM → Prop := fun x xs μ Q => ∃ a : Str, x = .str a ∧ xs = [] ∧ a.length ≤ 5592405 ∧ Q (.str (Txt.upper a)) μ
theorem sim_upper : SimM K (fun x xs H Q => ∃ a, x = .str a ∧ xs = [] ∧ a.length ≤ 5592405 ∧ Q (.str (Txt.upper a)) H) rdUpper := fun S μ H x xs dx ds Q QD r hx hs k q => by
  obtain ⟨a, rfl, rfl, h1, q⟩ := q
  have hs : xs = [] := hs
  exact ⟨a, hx, hs, h1, k S μ H _ (.str (Txt.upper a)) Grow.refl r rfl q⟩
/-! ### range with a step -/
def rangeC (lo c : Int) (n : Nat) : List D := (List.range n).map fun i => D.int (lo + (i : Nat) * c)
theorem rangeC_len (lo c : Int) (n : Nat) : (rangeC lo c n).length = n := by unfold rangeC; simp
theorem rangeC_get {lo c : Int} {n i : Nat} {d : D} (h : (rangeC lo c n)[i]? = some d) : i < n ∧ d = .int (lo + (i : Nat) * c) := by
  unfold rangeC at h
  rw [List.getElem?_map] at h
  by_cases hi : i < n
  · rw [List.getElem?_range hi] at h
    exact ⟨hi, (Option.some.inj h).symm⟩
  · rw [List.getElem?_eq_none (by simpa using hi)] at h
    cases h
theorem wk_rangeC {S : Hp} {lo c : Int} {n : Nat} : Wk K S (Itc lo c n) (rangeC lo c n) (fun _ => True) where
  goes := fun S' μ H i e r _ hi => by rw [rangeC_len] at hi; exact hi
  stops := fun S' μ H e r _ => by rw [rangeC_len]; exact Nat.le_refl _
  yields := fun S' μ H i d x H' e r _ hd y => by
    obtain ⟨rfl, rfl⟩ := y
    obtain ⟨_, rfl⟩ := rangeC_get hd
    exact ⟨S', Grow.refl, r, rfl⟩
def diRng3 (da : DA) : DI := fun δ μ Q => da δ μ fun xs δ1 μ1 => ∃ (i j c : Int) (n : Nat), xs = [.int i, .int j, .int c] ∧ RgC i j c n ∧ Q (rangeC i c n) (fun _ => True) δ1 μ1
theorem i_range3 {tg a b c : Expr} {p pos : Pos} {ta : TA} {da : DA} (hg : Gl X "range") (hm : X.mg "range" = none) (ha : PDA K Z X [a, b, c] ta da)
    (hs : starEach [a, b, c] X.env = (false, eval a X.env) :: starEach [b, c] X.env := by rfl) (hpl : (backTo pos (starEach [b, c] X.env)).any (·.1) = false := by rfl) : PDI K Z X tg (.Call (.Name "range" p) [a, b, c] [] pos) (iRng3 ta) (diRng3 da) :=
  ⟨pi_range3 hg hm ha.p hs hpl, fun B hB S μ H σ δ Q QD rl k q => by
    refine ha.s B hB S μ H σ δ _ _ rl (fun S1 μ1 H1 δ1 vs ds e1 r1 hv q1 => ?_) q
    obtain ⟨i, j, c, n, rfl, hc, q1⟩ := q1
    obtain ⟨v, r, rfl, h1, h2⟩ := hv
    obtain ⟨w, u, rfl, h2, h3⟩ := RepL.two' h2
    have h1 : v = .int i := h1
    have h2 : w = .int j := h2
    have h3 : u = .int c := h3
    subst h1 h2 h3
    exact ⟨i, j, c, n, rfl, hc, k S1 μ1 H1 δ1 _ _ _ e1 r1 wk_rangeC q1⟩⟩
theorem rgC_two {j : Int} (h0 : 0 ≤ j) (h1 : j < 2 ^ 62) : RgC 0 j 2 ((j + 1) / 2).toNat := by
  have e : Builtin.Range.rangeSize 0 j 2 = (j + 1) / 2 := by
    have := rangeSize_pos (len := j) (c := 2) (by decide) h0
    rw [this]
    congr 1
    omega
  refine ⟨by decide, by decide, ?_, by rw [e]; omega⟩
  unfold Builtin.Range.small
  rw [e]
  simp only [Builtin.Range.rangeFitsLong, Bool.and_eq_true, Bool.or_eq_true, decide_eq_true_eq, beq_iff_eq, show (2 : Int) > 0 by decide, if_true]
  omega
/-! ### a text, or else -/
def dOrS (da db : DE) : DE := fun δ μ Q => da δ μ fun x δ1 μ1 => StrI x fun z => z.length ≤ sizeLine ∧ if ((z.length : Int) != 0) = true then Q x δ1 μ1 else db δ1 μ1 Q
theorem d_orS {a b : Expr} {rest : List Expr} {t u : TE} {d du : DE} {pos} (h : PD K Z X a t d) (h2 : PD K Z X (.BoolOp .Or (b :: rest) pos) u du) (hk : X.K = K := by rfl) : PD K Z X (.BoolOp .Or (a :: b :: rest) pos) (tOrT K t u) (dOrS d du) := by
  subst hk
  exact ⟨pe_orT h.p h2.p, fun B hB S μ H σ δ Q QD rl k q => by
    refine h.s B hB S μ H σ δ _ _ rl (fun S1 μ1 H1 δ1 x dx e1 r1 hx q1 => ?_) q
    obtain ⟨z, rfl, hz, q1⟩ := q1
    have hx' : x = .str z := hx
    subst hx'
    refine ⟨_, ⟨hz, rfl⟩, ?_⟩
    split at q1
    · rename_i hc
      rw [if_pos hc]
      exact k S1 μ1 H1 δ1 _ (.str z) e1 r1 rfl q1
    · rename_i hc
      rw [if_neg hc]
      exact h2.s B hB S1 μ1 H1 σ δ1 _ _ r1 (fun S2 μ2 H2 δ2 v d e2 r2 hv q2 => k S2 μ2 H2 δ2 v d (e1.trans e2) r2 hv q2) q1⟩
/-! ### x *= y -/
def ipM : TIp := fun x y H Q => ∃ i j, x = .int i ∧ y = .int j ∧ CMulW i j ∧ Q (.int (i * j)) H
theorem ip_mul : PIp X .Mult ipM := by
  intro pins s σ H x y v u Q I r1 r2 h
  obtain ⟨i, j, e1, e2, hc, q⟩ := h
  subst e1; subst e2
  obtain ⟨t, rfl⟩ := r1
  obtain ⟨t', rfl⟩ := r2
  exact imul_int ⟨.int _, H, I.tok _, ⟨_, rfl⟩, q⟩ hc.ok
def dAugM (i : Nat) (de : DE) : DS := fun DD δ μ => ∃ n, δ[i]? = some (.val (.int n)) ∧ de δ μ fun d δ1 μ1 => ∃ m, d = .int m ∧ CMulW n m ∧ DD.nx (δ1.set i (.val (.int (n * m)))) μ1
theorem s_augM {i : Nat} {x : Str} {e : Expr} {pos pos' : Pos} {te : TE} {de : DE} (hN : X.N.Nodup) (he : PD K Z X e te de) (hi : X.N[i]? = some x := by rfl) (hx : Loc X.env.scope x := by first | exact Or.inl rfl | exact Or.inr rfl) (hf : X.fn x = true ∨ X.env.scope.names.lookup x = some .local := by first | exact .inl rfl | exact .inr rfl | assumption) :
    PDS K Z X (.AugAssign (.Name x pos') .Mult e pos) (tAug i te ipM) (dAugM i de) := ⟨ps_aug hN hi hx he.p ip_mul hf, fun B hB S μ H σ δ E DD rl lf q => by
  obtain ⟨n, e, q⟩ := q
  obtain ⟨v, e1, h1⟩ := rl.var e
  have h1 : v = .int n := h1
  subst h1
  refine ⟨.int n, e1, he.s B hB S μ H σ δ _ _ rl (fun S1 μ1 H1 δ1 v d e1 r1 hv q1 => ?_) q⟩
  obtain ⟨m, rfl, hc, q1⟩ := q1
  exact ⟨n, m, rfl, hv, hc, lf.nx S1 μ1 H1 _ _ (r1.set (d := .int (n * m)) rfl) q1⟩⟩
variable {Q : QE} {QM' : QM}
variable {δ : Ss} {μ : Mem} {nx : Ss → Mem → Prop} {rt : QM} {bk ct : Ss → Mem → Prop}
instance st_par3F {i j l : Nat} {df dg dh : DF} : Step (dPar3F i j l df dg dh ⟨nx, rt, bk, ct⟩ δ μ) (df δ μ fun m δ1 μ1 => dg δ1 μ1 fun n δ2 μ2 => dh δ2 μ2 fun o δ3 μ3 => nxSet (nxSet (nxSet nx l (.own o)) j (.own n)) i (.own m) δ3 μ3) := ⟨id⟩
instance st_orS {da db : DE} : Step (dOrS da db δ μ Q) (da δ μ fun x δ1 μ1 => StrI x fun z => z.length ≤ sizeLine ∧ if ((z.length : Int) != 0) = true then Q x δ1 μ1 else db δ1 μ1 Q) := ⟨id⟩
instance st_irev {de : DE} {R : List D → (Mem → Prop) → Ss → Mem → Prop} : Step (diRev de δ μ R) (de δ μ fun d δ1 μ1 => RevI d fun l => R l (fun _ => True) δ1 μ1) := ⟨id⟩
instance st_irevT {l : List D} {R : List D → Prop} : Step (RevI (.tup l) R) (R l.reverse) := ⟨fun h => ⟨l, .inl rfl, h⟩⟩
instance st_irevL {l : List D} {R : List D → Prop} : Step (RevI (.lst l) R) (R l.reverse) := ⟨fun h => ⟨l, .inr rfl, h⟩⟩
instance st_fmt {de : DE} : Step (dFmt de δ μ Q) (de δ μ fun d δ1 μ1 => FmtI d fun z => Q z δ1 μ1) := ⟨id⟩
instance st_fmtS {z : Str} {R : D → Prop} : Step (FmtI (.str z) R) (z.length ≤ sizeLine ∧ R (.str z)) := ⟨fun h => .inl ⟨z, rfl, h⟩⟩
instance st_fmtI {z : Int} {R : D → Prop} : Step (FmtI (.int z) R) (z.natAbs.log2 < 1920 ∧ R (.str (toString z))) := ⟨fun h => .inr ⟨z, rfl, h⟩⟩
instance st_joined {ds : List DE} : Step (dJoined ds δ μ Q) (dJs ds Str.empty δ μ fun out δ1 μ1 => Q (.str out) δ1 μ1) := ⟨id⟩
instance st_js0 {acc : Str} {R : Str → Ss → Mem → Prop} : Step (dJs [] acc δ μ R) (R acc δ μ) := ⟨id⟩
instance st_js1 {acc : Str} {d : DE} {ds : List DE} {R : Str → Ss → Mem → Prop} : Step (dJs (d :: ds) acc δ μ R) (d δ μ fun x δ1 μ1 => StrI x fun y => (acc ++ y).length ≤ sizeLine ∧ dJs ds (acc ++ y) δ1 μ1 R) := ⟨id⟩
instance st_js2 {z : Str} {P : Str → Prop} : Step (StrI (.str z) P) (P z) := ⟨fun h => ⟨z, rfl, h⟩⟩
instance st_BMs0 {r : D → List D → Mem → QM → Prop} {do_ : DE} : Step (dBMs0 r do_ δ μ Q) (do_ δ μ fun x δ1 μ1 => isStr x ∧ r x [] μ1 fun d μ2 => Q d δ1 μ2) := ⟨id⟩
instance st_split {a b : Str} : Step (rdSplit (.str a) [.str b] μ QM') ((b.length == 0) = false ∧ a.length + 2 ≤ sizeLine ∧ QM' (.lst ((Txt.split a b).map .str)) μ) := ⟨fun h => ⟨a, b, rfl, rfl, h⟩⟩
instance st_find {a b : Str} : Step (rdFind (.str a) [.str b] μ QM') (QM' (.int (Txt.find a b)) μ) := ⟨fun h => ⟨a, b, rfl, rfl, h⟩⟩
instance st_rfind {a b : Str} : Step (rdRfind (.str a) [.str b] μ QM') (QM' (.int (Txt.rfind a b)) μ) := ⟨fun h => ⟨a, b, rfl, rfl, h⟩⟩
instance st_upper {a : Str} : Step (rdUpper (.str a) [] μ QM') (a.length ≤ 5592405 ∧ QM' (.str (Txt.upper a)) μ) := ⟨fun h => ⟨a, rfl, rfl, h⟩⟩
instance st_rng3 {da : DA} {R : List D → (Mem → Prop) → Ss → Mem → Prop} : Step (diRng3 da δ μ R) (da δ μ fun xs δ1 μ1 => ∃ (i j c : Int) (n : Nat), xs = [.int i, .int j, .int c] ∧ RgC i j c n ∧ R (rangeC i c n) (fun _ => True) δ1 μ1) := ⟨id⟩
instance st_augM {i : Nat} {de : DE} : Step (dAugM i de ⟨nx, rt, bk, ct⟩ δ μ) (∃ n, δ[i]? = some (.val (.int n)) ∧ de δ μ fun d δ1 μ1 => ∃ m, d = .int m ∧ CMulW n m ∧ nxSet nx i (.val (.int (n * m))) δ1 μ1) := ⟨id⟩
end Dl

namespace Dl
open PySem PySem.Spec PyProof.Rows L2
variable {X : Cx} {K : PySem.W.Frag} {Z : Bs}
/-! ### zip of a list or a tuple and a list or a tuple -/
/-- a tuple (true) or a list -/
def SqK (t : Bool) (K : PySem.W.Frag) (H : Hp) (a : Addr) (xs : List V) : Prop := if t = true then SqT K H a xs else SqL K H a xs
def ItK (t : Bool) (h : Heap) (it a : Addr) (i : Nat) : Prop := if t = true then h.IsTupleIter it a i else h.IsListIter it a i
theorem ItK.obj {t : Bool} {h : Heap} {it a : Addr} {i : Nat} (x : ItK t h it a i) : ∃ o, h.get? it = some o ∧ ∀ v, o.data ≠ .cell v := by
  cases t <;> (obtain ⟨o, e, _, d⟩ := x; exact ⟨o, e, fun v q => by rw [d] at q; cases q⟩)
theorem ItK.move {t : Bool} {h h' : Heap} {it a : Addr} {i : Nat} (x : ItK t h it a i) (k : ∀ o, h.get? it = some o → h'.get? it = some o) : ItK t h' it a i := by
  cases t
  · have x : h.IsListIter it a i := x
    exact x.at k
  · have x : h.IsTupleIter it a i := x
    exact x.at k
theorem drawK {pins : List (Addr × Obj)} {σ : L2.St} {H : Hp} {s : Shared} {A : Around} {t : Bool} {it a : Addr} {i : Nat} {xs : List V} (I : Inv X pins σ H s) (hh : A.handled = none) (hq : SqK t X.K H a xs) (st : ItK t s.heap it a i) :
    ∃ (P : Nat → Value → Prop) (St : Nat → Heap → Prop), Draws X.prog X.w A it [it, a] xs.length P St ∧ St i s.heap ∧ (∀ j h, St j h → ItK t h it a j) ∧ ∀ j v, P j v → ∃ x, xs[j]? = some x ∧ RelV x v := by
  cases t with
  | false =>
    obtain ⟨its, rv, p, _⟩ := I.list (show SqL X.K H a xs from hq)
    have st : s.heap.IsListIter it a i := st
    have hl : s.heap.IsList a its.toArray := p.isList
    have ne : a ≠ it := fun z => by
      obtain ⟨o1, g1, c1, _⟩ := hl
      obtain ⟨o2, g2, c2, _⟩ := st
      rw [z, g2] at g1
      cases g1
      rw [c1] at c2
      exact absurd c2 (by decide)
    have D := Draws.list (prog := X.prog) (w := X.w) hh it a ne its.toArray
    rw [show its.toArray.size = xs.length by rw [List.size_toArray, rv.length]] at D
    refine ⟨_, _, D, ⟨st, hl⟩, fun j h z => z.1, fun j v e => ?_⟩
    have e : its[j]? = some v := by simpa using e
    have hj : j < xs.length := by
      have := (List.getElem?_eq_some_iff.mp e).1
      rw [rv.length]; exact this
    obtain ⟨u, hu, ru⟩ := rv.get (x := xs[j]) (List.getElem?_eq_getElem hj)
    rw [e] at hu
    cases hu
    exact ⟨_, List.getElem?_eq_getElem hj, ru⟩
  | true =>
    obtain ⟨its, rv, p, _⟩ := I.tuple (show SqT X.K H a xs from hq)
    have st : s.heap.IsTupleIter it a i := st
    have hl : s.heap.IsTuple a its.toArray := p
    have ne : a ≠ it := fun z => by
      obtain ⟨o1, g1, c1, _⟩ := hl
      obtain ⟨o2, g2, c2, _⟩ := st
      rw [z, g2] at g1
      cases g1
      rw [c1] at c2
      exact absurd c2 (by decide)
    have D := Draws.tuple (prog := X.prog) (w := X.w) hh it a ne its.toArray
    rw [show its.toArray.size = xs.length by rw [List.size_toArray, rv.length]] at D
    refine ⟨_, _, D, ⟨st, hl⟩, fun j h z => z.1, fun j v e => ?_⟩
    have e : its[j]? = some v := by simpa using e
    have hj : j < xs.length := by
      have := (List.getElem?_eq_some_iff.mp e).1
      rw [rv.length]; exact this
    obtain ⟨u, hu, ru⟩ := rv.get (x := xs[j]) (List.getElem?_eq_getElem hj)
    rw [e] at hu
    cases hu
    exact ⟨_, List.getElem?_eq_getElem hj, ru⟩
theorem sqk_inj {pins : List (Addr × Obj)} {σ : L2.St} {H : Hp} {s : Shared} (I : Inv X pins σ H s) {t : Bool} {a : Addr} {xs ys : List V} (h1 : SqK t X.K H a xs) (h2 : SqK t X.K H a ys) : xs = ys := by
  cases t with
  | false => exact I.list_inj h1 h2
  | true => exact I.tuple_inj h1 h2
def ItzM (K : PySem.W.Frag) (t u : Bool) (a b : Addr) : It where
  go := fun i H => ∃ (xs ys : List V) (x y : V), SqK t K H a xs ∧ SqK u K H b ys ∧ xs[i]? = some x ∧ ys[i]? = some y
  yld := fun i H v H' => ∃ T x y, v = .ref T ∧ H T = none ∧ H' = upd H T (.tup [x, y]) ∧ (∀ xs, SqK t K H a xs → xs[i]? = some x) ∧ ∀ ys, SqK u K H b ys → ys[i]? = some y
  stop := fun i H => ∃ xs ys : List V, SqK t K H a xs ∧ SqK u K H b ys ∧ i ≤ xs.length ∧ i ≤ ys.length ∧ (i = xs.length ∨ i = ys.length)
def zst (t u : Bool) (a b z TI TO i1 i2 : Addr) : Nat → Heap → Prop := fun i h => IsZip h z TI TO .none ∧ IsTupOf2 h TI (.ref i1) (.ref i2) ∧ (∃ x y, IsTupOf2 h TO x y) ∧ ItK t h i1 a i ∧ ItK u h i2 b i
theorem in5 {z TI TO i1 i2 c : Addr} (h : c ∈ [z, TI, TO, i1, i2]) : c = z ∨ c = TI ∨ c = TO ∨ c = i1 ∨ c = i2 := by simpa using h
theorem no4 {z TI TO i1 i2 c : Addr} (h : c ∉ [z, TI, TO, i1, i2]) : c ≠ z ∧ c ≠ TO ∧ c ≠ i1 ∧ c ≠ i2 := ⟨fun q => h (by simp [q]), fun q => h (by simp [q]), fun q => h (by simp [q]), fun q => h (by simp [q])⟩
theorem zst.at {t u : Bool} {a b z TI TO i1 i2 : Addr} {i : Nat} {h : Heap} (st : zst t u a b z TI TO i1 i2 i h) : ∀ c ∈ [z, TI, TO, i1, i2], ∃ o, h.get? c = some o ∧ ∀ v, o.data ≠ .cell v := fun c hc => by
  obtain ⟨hz, hTI, ⟨x, y, hTO⟩, h1, h2⟩ := st
  rcases in5 hc with rfl | rfl | rfl | rfl | rfl
  · exact ⟨_, hz, fun v q => nomatch q⟩
  · exact ⟨_, hTI, fun v q => nomatch q⟩
  · exact ⟨_, hTO, fun v q => nomatch q⟩
  · exact h1.obj
  · exact h2.obj
theorem turn_zipM {P : Program} {w : World} {elts : List Expr} {kk : Nat} {tpos : Pos} {t u : Bool} {a b z TI TO i1 i2 : Addr} (D : ZipSep2 z TI TO i1 i2 [i1, a] [i2, b]) :
    Turn P w K (.Tuple elts kk tpos) (ItzM K t u a b) [z, TI, TO, i1, i2] z (zst t u a b z TI TO i1 i2) where
  mem := List.mem_cons_self
  obj := fun i h st => st.at
  keep := fun i h h' st k => by
    obtain ⟨hz, hTI, ⟨x, y, hTO⟩, h1, h2⟩ := st
    exact ⟨k z (by simp) _ hz, k TI (by simp) _ hTI, ⟨x, y, k TO (by simp) _ hTO⟩, h1.move fun o q => k i1 (by simp) o q, h2.move fun o q => k i2 (by simp) o q⟩
  item := by
    intro X hP hw hK hc i pins s σ H E I hf st hg
    subst hP hw hK
    have lt : ∀ c ∈ [z, TI, TO, i1, i2], c < s.heap.objs.size := fun c hc => by
      obtain ⟨o, e, _⟩ := st.at c hc
      exact Heap.lt_size e
    obtain ⟨hz, hTI, ⟨x0, y0, hTO⟩, h1, h2⟩ := st
    obtain ⟨xs, ys, x, y, hqx, hqy, hx, hy⟩ := hg
    obtain ⟨P1, S1, D1, st1, b1, r1⟩ := drawK (A := X.A.in1) I (I.ok.hd hc) hqx h1
    obtain ⟨P2, S2, D2, st2, b2, r2⟩ := drawK (A := X.A.in1) I (I.ok.hd hc) hqy h2
    refine wpAny_pyNext_zipD2_item D D1 D2 hz hTI hTO st1 st2 (List.getElem?_eq_some_iff.mp hx).1 (List.getElem?_eq_some_iff.mp hy).1 fun v1 v2 h' tk p1 p2 z' TO' s1' s2' hT hsz hk => ?_
    obtain ⟨x', ex, rx⟩ := r1 i v1 p1
    obtain ⟨y', ey, ry⟩ := r2 i v2 p2
    rw [hx] at ex
    rw [hy] at ey
    cases ex
    cases ey
    refine ⟨_, rfl, wpAny_letOwnedTupleGo_zip (s := { s with heap := h', toks := tk }) z' fun h'' z'' sb => ?_⟩
    have zn : s.heap.objs.size ≠ z := Nat.ne_of_gt (lt z (by simp))
    have hT2 : IsTupOf2 h'' s.heap.objs.size v1 v2 := (sb.2 _ zn).trans hT
    have new : ObjOk X.prog X.w (upd H s.heap.objs.size (.tup [x, y])) h'' s.heap.objs.size (.tup [x, y]) :=
      ⟨by show 2 ≤ sizeLine; decide, [v1, v2], .cons rx (.cons ry .nil), ⟨_, hT2, rfl, _, rfl⟩⟩
    have kp : ∀ c o, c ∉ [z, TI, TO, i1, i2] → s.heap.get? c = some o → h''.get? c = some o := fun c o hc e => by
      obtain ⟨n1, n2, n3, n4⟩ := no4 hc
      exact (sb.2 c n1).trans (hk c o n1 n2 n3 n4 e)
    refine ⟨.ref s.heap.objs.size, _, I.turnedNew (t' := tk) (ch := [z, TI, TO, i1, i2]) kp hf (Nat.le_refl _) new, rfl, ⟨_, x, y, rfl, I.hok.fresh (Nat.le_refl _), rfl, fun l hl => by rw [sqk_inj I hl hqx]; exact hx, fun l hl => by rw [sqk_inj I hl hqy]; exact hy⟩, ⟨z'', ?_, ⟨v1, v2, ?_⟩, ?_, ?_⟩, fun c hcm => ?_⟩
    · exact (sb.2 TI D.TIz).trans (hk TI _ D.TIz D.TITO D.TIi1 D.TIi2 hTI)
    · exact (sb.2 TO D.TOz).trans TO'
    · exact (b1 _ _ s1').move fun o q => (sb.2 i1 D.zi1.symm).trans q
    · exact (b2 _ _ s2').move fun o q => (sb.2 i2 D.zi2.symm).trans q
    · rw [upd_ne (Nat.ne_of_lt (lt c hcm))]
      exact (hf c hcm).1
  done := by
    intro X hP hw hK hc i pins s σ H E I hf st hg
    subst hP hw hK
    obtain ⟨hz, hTI, ⟨x0, y0, hTO⟩, h1, h2⟩ := st
    obtain ⟨xs, ys, hqx, hqy, l1, l2, hend⟩ := hg
    obtain ⟨P1, S1, D1, st1, _, _⟩ := drawK (A := X.A.in1) I (I.ok.hd hc) hqx h1
    obtain ⟨P2, S2, D2, st2, _, _⟩ := drawK (A := X.A.in1) I (I.ok.hd hc) hqy h2
    exact wpAny_pyNext_zipD2_end D D1 D2 hz hTI hTO st1 st2 l1 l2 hend fun h' tk hk => ⟨rfl, I.turnedL (t' := tk) (ch := [z, TI, TO, i1, i2]) (fun c o hc e => by
      obtain ⟨n1, n2, n3, n4⟩ := no4 hc
      exact hk c o n1 n2 n3 n4 e) hf⟩
  self := fun A i s Q E st h => wpAny_pyIter_zip st.1 h
theorem beginK {pins : List (Addr × Obj)} {σ : L2.St} {H : Hp} {s : Shared} (I : Inv X pins σ H s) {t : Bool} {a : Addr} {xs : List V} (hq : SqK t X.K H a xs) : ∃ (o : Obj) (T : Heap → Prop), Begins (.ref a) o T ∧ T s.heap ∧ a < s.heap.objs.size ∧ ∀ h' it, h'.get? it = some o → ItK t h' it a 0 := by
  cases t with
  | false =>
    obtain ⟨its, rv, p, _⟩ := I.list (show SqL X.K H a xs from hq)
    exact ⟨_, _, begins_list a its.toArray, p.isList, p.lt, fun h' it e => ⟨_, e, rfl, rfl⟩⟩
  | true =>
    obtain ⟨its, rv, p, _⟩ := I.tuple (show SqT X.K H a xs from hq)
    have hl : s.heap.IsTuple a its.toArray := p
    exact ⟨_, _, begins_tuple a its.toArray, hl, by obtain ⟨o, e, _⟩ := hl; exact Heap.lt_size e, fun h' it e => ⟨_, e, rfl, rfl⟩⟩
def iZipM (K : PySem.W.Frag) (ta : TA) : TI := fun σ H R => ta σ H fun vs H1 => ∃ t u a b xs ys, vs = [.ref a, .ref b] ∧ SqK t K H1 a xs ∧ SqK u K H1 b ys ∧ R (ItzM K t u a b) H1
theorem pi_zipM {e e2 : Expr} {ta : TA} {p pos tpos : Pos} {elts : List Expr} {kk : Nat} (hg : Gl X "zip") (hm : X.mg "zip" = none) (ha : PA X [e, e2] ta)
    (hs : starEach [e, e2] X.env = (false, eval e X.env) :: starEach [e2] X.env := by rfl) (hpl : (backTo pos (starEach [e2] X.env)).any (·.1) = false := by rfl) :
    PI X (.Tuple elts kk tpos) (.Call (.Name "zip" p) [e, e2] [] pos) (iZipM X.K ta) := by
  refine ⟨fun pins s σ H R I h => Call_ (ld_blt I hg hm PyProof.Rows.boot_zip (PyProof.Rows.callWith_type1 (thn (ha.run pos pins s σ H _ I h) fun us s1 ⟨vs, H1, I1, r1, q1⟩ => ?_) hs hpl))⟩
  obtain ⟨t, u, a, b, xs, ys, rfl, hqx, hqy, q⟩ := q1
  cases r1 with
  | cons r rr =>
    cases rr with
    | cons r' rr =>
      cases rr
      cases r
      cases r'
      obtain ⟨o1, T1, B1, m1, la, i1⟩ := beginK I1 hqx
      obtain ⟨o2, T2, B2, m2, lb, i2⟩ := beginK I1 hqy
      refine zip_begins2 B1 B2 m1 m2 fun h' hz hTI hTO g1 g2 hsz hk => wpAny_pyIter_zip hz ?_
      have S2 := zip_sep2 (N := s1.heap.objs.size) (fp1 := [a]) (fp2 := [b]) (fun c hc => by rw [List.mem_singleton.mp hc]; exact la) (fun c hc => by rw [List.mem_singleton.mp hc]; exact lb)
      refine ⟨_, _, _, _, H1, rfl, I1.kept (t' := s1.toks) hk, turn_zipM (t := t) (u := u) S2, ⟨hz, hTI, ⟨_, _, hTO⟩, i1 _ _ g1, i2 _ _ g2⟩, fun c hcm => ?_, q⟩
      have hle : s1.heap.objs.size ≤ c := by
        rcases in5 hcm with rfl | rfl | rfl | rfl | rfl <;> omega
      exact I1.fpOk hle (I1.hok.fresh hle)
structure LkK (K : PySem.W.Frag) (t : Bool) (S0 : Hp) (a : Addr) (l : List D) (G : Mem → Prop) : Prop where
  at_ : ∀ S μ H, Ex S0 S → R3 K S μ H → G μ → ∃ vs, SqK t K H a vs ∧ RepL K S l vs
/-- a list, of the memory or not, or a tuple -/
def SeqI (d : D) (μ : Mem) (R : List D → (Mem → Prop) → Prop) : Prop := (∃ l, d = .tup l ∧ R l fun _ => True) ∨ WkL d μ R
theorem seqi_is {S : Hp} {μ : Mem} {H : Hp} {d : D} {v : V} {R : List D → (Mem → Prop) → Prop} (r : R3 K S μ H) (h : Rep K S d v) (w : SeqI d μ R) : ∃ t a l G, v = .ref a ∧ LkK K t S a l G ∧ G μ ∧ R l G := by
  rcases w with ⟨l, rfl, q⟩ | w
  · obtain ⟨a, vs, rfl, hl, h2⟩ := h
    exact ⟨true, a, l, _, rfl, ⟨fun S' μ' H' e r' _ => ⟨vs, exr_t r'.ex (ex_t e (SqT.of hl)), RepL.mono e _ _ h2⟩⟩, trivial, q⟩
  · obtain ⟨a, l, G, rfl, lk, hG, q⟩ := wkl_is r h w
    exact ⟨false, a, l, G, rfl, ⟨lk.at_⟩, hG, q⟩
theorem wk_zipM {S : Hp} {t u : Bool} {a b : Addr} {l m : List D} {G G' : Mem → Prop} (h : LkK K t S a l G) (h' : LkK K u S b m G') : Wk K S (ItzM K t u a b) (zipD l m) (fun μ => G μ ∧ G' μ) where
  goes := fun S' μ H i e r g hi => by
    obtain ⟨vs, h1, h2⟩ := h.at_ S' μ H e r g.1
    obtain ⟨ws, h3, h4⟩ := h'.at_ S' μ H e r g.2
    have hi := hi
    simp only [zipD, List.length_zipWith] at hi
    have hi1 : i < vs.length := by rw [RepL.length h2]; omega
    have hi2 : i < ws.length := by rw [RepL.length h4]; omega
    exact ⟨vs, ws, vs[i], ws[i], h1, h3, by simp [hi1], by simp [hi2]⟩
  stops := fun S' μ H e r g => by
    obtain ⟨vs, h1, h2⟩ := h.at_ S' μ H e r g.1
    obtain ⟨ws, h3, h4⟩ := h'.at_ S' μ H e r g.2
    refine ⟨vs, ws, h1, h3, ?_⟩
    rw [RepL.length h2, RepL.length h4]
    simp only [zipD, List.length_zipWith]
    omega
  yields := fun S' μ H i d x H' e r g hd y => by
    obtain ⟨vs, h1, h2⟩ := h.at_ S' μ H e r g.1
    obtain ⟨ws, h3, h4⟩ := h'.at_ S' μ H e r g.2
    obtain ⟨T, u, w, rfl, hT, rfl, y, y'⟩ := y
    have y := y vs h1
    have y' := y' ws h3
    obtain ⟨d1, d2, hd1, hd2, rfl⟩ := zip_get hd
    obtain ⟨v, e1, hv⟩ := RepL.get h2 hd1
    obtain ⟨v', e2, hv'⟩ := RepL.get h4 hd2
    rw [e1] at y
    rw [e2] at y'
    cases y
    cases y'
    obtain ⟨r4, gg⟩ := r.alloc (o := .tup [u, w]) hT
    exact ⟨_, gg, r4, T, _, rfl, upd_same, _, _, rfl, Rep.mono gg.ex _ _ hv, RepL.one (Rep.mono gg.ex _ _ hv')⟩
def ZipM (ds : List D) (μ : Mem) (R : List D → (Mem → Prop) → Prop) : Prop := ∃ d e, ds = [d, e] ∧ SeqI d μ fun l G => SeqI e μ fun m G' => R (zipD l m) (fun μ => G μ ∧ G' μ)
def diZipM (da : DA) : DI := fun δ μ Q => da δ μ fun ds δ1 μ1 => ZipM ds μ1 fun l G => Q l G δ1 μ1
theorem i_zipM {e e2 : Expr} {p pos tpos : Pos} {elts : List Expr} {kk : Nat} {ta : TA} {da : DA} (hg : Gl X "zip") (hm : X.mg "zip" = none) (ha : PDA K Z X [e, e2] ta da) (hk : X.K = K := by rfl) (hs : starEach [e, e2] X.env = (false, eval e X.env) :: starEach [e2] X.env := by rfl) (hs2 : (backTo pos (starEach [e2] X.env)).any (·.1) = false := by rfl) :
    PDI K Z X (.Tuple elts kk tpos) (.Call (.Name "zip" p) [e, e2] [] pos) (iZipM K ta) (diZipM da) := by
  subst hk
  exact ⟨pi_zipM hg hm ha.p hs hs2, fun B hB S μ H σ δ Q QD rl k q => by
    refine ha.s B hB S μ H σ δ _ _ rl (fun S1 μ1 H1 δ1 xs ds e1 r1 hx q1 => ?_) q
    obtain ⟨d, e, rfl, w⟩ := q1
    obtain ⟨v, v2, rfl, hv, hv2⟩ := RepL.two' hx
    obtain ⟨t, a, l, G, rfl, lk, hG, w⟩ := seqi_is r1.r3 hv w
    obtain ⟨u, b, m, G', rfl, lk2, hG2, q⟩ := seqi_is r1.r3 hv2 w
    obtain ⟨vs, h1, h2⟩ := lk.at_ S1 μ1 H1 (Ex.refl _) r1.r3 hG
    obtain ⟨ws, h3, h4⟩ := lk2.at_ S1 μ1 H1 (Ex.refl _) r1.r3 hG2
    exact ⟨t, u, a, b, vs, ws, rfl, h1, h3, k S1 μ1 H1 δ1 _ _ _ e1 r1 (wk_zipM lk lk2) q⟩⟩
theorem zipD_map {α β : Type} (f : α → D) (g : β → D) (l : List α) (m : List β) : zipD (l.map f) (m.map g) = (l.zip m).map fun p => .tup [f p.1, g p.2] := by
  unfold zipD
  rw [List.zipWith_map]
  induction l generalizing m with
  | nil => rfl
  | cons a l ih =>
    cases m with
    | nil => rfl
    | cons b m => rw [List.zipWith_cons_cons, ih, List.zip_cons_cons, List.map_cons]
/-! ### int(text) -/
def rdIntS : DC := fun xs μ Q => ∃ a n, xs = [.str a] ∧ PySem.intText? a = some n ∧ a.length ≤ 640 ∧ Q (.int n) μ
theorem c_intS : PDC K X (.type "int") (fun xs H Q => ∃ a n, xs = [.str a] ∧ PySem.intText? a = some n ∧ a.length ≤ 640 ∧ Q (.int n) H) rdIntS :=
  ⟨call_int_str, fun S μ H xs ds Q QD r hx k q => by
    obtain ⟨a, n, rfl, h1, h2, q⟩ := q
    obtain ⟨v, rfl, hv⟩ := RepL.one' hx
    exact ⟨a, n, by rw [show v = .str a from hv], h1, h2, k S μ H _ (.int n) Grow.refl r rfl q⟩⟩
variable {δ : Ss} {μ : Mem} {nx : Ss → Mem → Prop} {rt : QM} {bk ct : Ss → Mem → Prop} {Q : QE} {QM' : QM}
instance st_zipM {da : DA} {R : List D → (Mem → Prop) → Ss → Mem → Prop} : Step (diZipM da δ μ R) (da δ μ fun ds δ1 μ1 => ZipM ds μ1 fun l G => R l G δ1 μ1) := ⟨id⟩
instance st_zipMTT {l m : List D} {R : List D → (Mem → Prop) → Prop} : Step (ZipM [.tup l, .tup m] μ R) (R (zipD l m) (fun _ => True)) := ⟨fun h => ⟨_, _, rfl, .inl ⟨l, rfl, .inl ⟨m, rfl, by show R (zipD l m) (fun _ => True ∧ True); rw [tt_and]; exact h⟩⟩⟩⟩
instance st_zipMLT {l m : List D} {R : List D → (Mem → Prop) → Prop} : Step (ZipM [.lst l, .tup m] μ R) (R (zipD l m) (fun _ => True)) := ⟨fun h => ⟨_, _, rfl, .inr (.inl ⟨l, .inl rfl, .inl ⟨m, rfl, by show R (zipD l m) (fun _ => True ∧ True); rw [tt_and]; exact h⟩⟩)⟩⟩
instance st_zipMTL {l m : List D} {R : List D → (Mem → Prop) → Prop} : Step (ZipM [.tup l, .lst m] μ R) (R (zipD l m) (fun _ => True)) := ⟨fun h => ⟨_, _, rfl, .inl ⟨l, rfl, .inr (.inl ⟨m, .inl rfl, by show R (zipD l m) (fun _ => True ∧ True); rw [tt_and]; exact h⟩)⟩⟩⟩
instance st_zipMLL {l m : List D} {R : List D → (Mem → Prop) → Prop} : Step (ZipM [.lst l, .lst m] μ R) (R (zipD l m) (fun _ => True)) := ⟨fun h => ⟨_, _, rfl, .inr (.inl ⟨l, .inl rfl, .inr (.inl ⟨m, .inl rfl, by show R (zipD l m) (fun _ => True ∧ True); rw [tt_and]; exact h⟩)⟩)⟩⟩
theorem js_empty {d : DE} {ds : List DE} {R : Str → Ss → Mem → Prop} (h : d δ μ fun x δ1 μ1 => StrI x fun y => y.length ≤ sizeLine ∧ dJs ds y δ1 μ1 R) : dJs (d :: ds) Str.empty δ μ R := by
  show d δ μ fun x δ1 μ1 => StrI x fun y => (Str.empty ++ y).length ≤ sizeLine ∧ dJs ds (Str.empty ++ y) δ1 μ1 R
  simp only [empty_app]
  exact h
instance (priority := high) st_js1e {d : DE} {ds : List DE} {R : Str → Ss → Mem → Prop} : Step (dJs (d :: ds) Str.empty δ μ R) (d δ μ fun x δ1 μ1 => StrI x fun y => y.length ≤ sizeLine ∧ dJs ds y δ1 μ1 R) := ⟨js_empty⟩
end Dl

namespace Dl
open PySem PySem.Spec PyProof.Rows L2
variable {X : Cx} {K : PySem.W.Frag} {Z : Bs}
/-! ### a fresh object becomes a cell of the memory -/
theorem Rel.cellF {B : Bs} {S : Hp} {μ : Mem} {H : Hp} {σ : L2.St} {δ : Ss} {p : Addr} {o : HO} {m : MO} (r : Rel K B S μ H σ δ) (f : Fresh B S μ H σ δ p o) (h : RepM K S m o) : Rel K B S (updM μ p m) H σ δ := by
  refine ⟨⟨r.r3.ex, fun a n e => ?_, r.r3.tb.m (oldX_some f.h h.nx)⟩, ⟨r.gr.ex, r.gr.st, r.gr.kp, fun a n e => ?_, r.gr.th⟩, r.lo, fun i s e => ?_, r.dj, fun q n e => ?_, r.fd⟩
  · by_cases ha : a = p
    · subst ha
      rw [updM_same] at e
      cases e
      exact ⟨f.s, o, f.h, h⟩
    · rw [updM_ne ha] at e
      exact r.r3.mu a n e
  · by_cases ha : a = p
    · subst ha
      exact .inr f.b
    · rw [updM_ne ha] at e
      exact r.gr.me a n e
  · obtain ⟨x, e1, h1⟩ := r.sl i s e
    refine ⟨x, e1, ?_⟩
    cases s with
    | no => trivial
    | val d => exact h1
    | own n =>
      obtain ⟨q, u, e2, g1, g2, g3, g4, g5⟩ := h1
      have ne : q ≠ p := fun z => f.d i n e (by rw [e1, e2, z])
      exact ⟨q, u, e2, g1, g2, by rw [updM_ne ne]; exact g3, g4, g5⟩
  · obtain ⟨u, g1, g2, g3, g4, g5⟩ := r.fr q n e
    have ne : q ≠ p := fun z => by rw [z, f.f] at e; cases e
    exact ⟨u, g1, g2, by rw [updM_ne ne]; exact g3, g4, g5⟩
def dCell (df : DF) : DE := fun δ μ Q => df δ μ fun m δ1 μ1 => ∀ p, μ1 p = none → Q (.ref p) δ1 (updM μ1 p m)
theorem simCell {te : TE} {df : DF} (h : SimF K Z te df) : SimE K Z te (dCell df) := fun B hB S μ H σ δ Q QD rl k q => by
  refine h B hB S μ H σ δ _ _ rl (fun S1 μ1 H1 δ1 p o m e1 r1 f hm q1 => ?_) q
  exact k S1 _ H1 δ1 _ (.ref p) e1 (r1.cellF f hm) rfl (q1 p f.m)
theorem d_cell {e : Expr} {te : TE} {df : DF} (h : PDF K Z X e te df) : PD K Z X e te (dCell df) := ⟨h.p, simCell h.s⟩
/-- y = [..], a cell -/
theorem s_lcM {i : Nat} {y : Str} {py : Pos} {elt tg iter : Expr} {ifs : List Expr} {scope : Scope} {own : List (Str × Nat)} {pos spos : Pos} {wi : TI} {g : TG} {tt : TT} {te : TE} {di : DI} {dg : DG} {dt : DT} {de : DE} (hc : X.calm = true) (hN : X.N.Nodup) (ho : GOwn g (own.map (·.2))) (hy : X.N[i]? = some y) (hyl : X.env.scope.names.lookup y = some .local)
    (hsw : swapsWith (.ListComp elt [⟨tg, iter, ifs, 0⟩] scope pos) (some (.Name y py)) spos.line X.env = pure true) (hi : PDI K Z X tg iter wi di) (ok : BlkOk X.N X.env.scope scope own)
    (hg : ∀ (s : Shared) (H : Hp) (C : Addr) (cl : List (Str × Addr)) (fp : List Addr), PDG K Z (X.blk s H scope (compEnvC scope cl C X.env) fp) tg g dg) (ht : ∀ (s : Shared) (H : Hp) (C : Addr) (cl : List (Str × Addr)) (fp : List Addr), PDTs K Z (X.blk s H scope (compEnvC scope cl C X.env) fp) ifs tt dt)
    (he : ∀ (s : Shared) (H : Hp) (C : Addr) (cl : List (Str × Addr)) (fp : List Addr), PD K Z (X.blk s H scope (compEnvC scope cl C X.env) fp) elt te de) (hs : ∀ x, foldedSetIterable iter X.env x = pure x := by intro _; rfl) :
    PDS K Z X (.Assign [.Name y py] (.ListComp elt [⟨tg, iter, ifs, 0⟩] scope pos) spos) (tAsg (tLc wi g tt te (own.map (·.2))) (gName i)) (dSet i (dCell (fLc di dg dt de (own.map (·.2))))) :=
  ⟨ps_setLc hc hN hy hyl hsw hi.p ok (fun s H C cl fp => (hg s H C cl fp).p) (fun s H C cl fp => (ht s H C cl fp).p) (fun s H C cl fp => (he s H C cl fp).p) hs, by
    let s0 : Shared := X.s_0
    exact simAsg (simCell (simFLc hi.s ho (hg s0 X.H_0 0 [] []).s (ht s0 X.H_0 0 [] []).s (he s0 X.H_0 0 [] []).s)) simGName⟩
/-! ### a list so often, two lists, a part of a list: fresh -/
theorem RepL.rep {S : Hp} {l : List D} {vs : List V} (h : RepL K S l vs) : ∀ m : Nat, RepL K S (List.replicate m l).flatten (List.replicate m vs).flatten
  | 0 => rfl
  | m + 1 => by
    rw [List.replicate_succ, List.replicate_succ, List.flatten_cons, List.flatten_cons]
    exact RepL.append h (RepL.rep h m)
def fRep (da db : DE) : DF := fun δ μ Q => da δ μ fun x δ1 μ1 => db δ1 μ1 fun y δ2 μ2 => ∃ l n, x = .lst l ∧ y = .int n ∧ 0 ≤ n ∧ n ≤ 10000 ∧ l.length * n.toNat ≤ sizeLine ∧ Q (.lst (List.replicate n.toNat l).flatten) δ2 μ2
theorem f_rep {a b : Expr} {pos : Pos} {ta tb : TE} {da db : DE} (ha : PD K Z X a ta da) (hb : PD K Z X b tb db) : PDF K Z X (.BinOp a .Mult b pos) (tOp rMulA ta tb) (fRep da db) :=
  ⟨pe_op (op_mulW.or op_rep) ha.p hb.p, fun B hB S μ H σ δ Q QF rl k q => by
    refine ha.s B hB S μ H σ δ _ _ rl (fun S1 μ1 H1 δ1 x dx e1 r1 h1 q1 => ?_) q
    refine hb.s B hB S1 μ1 H1 σ δ1 _ _ r1 (fun S2 μ2 H2 δ2 y dy e2 r2 h2 q2 => ?_) q1
    obtain ⟨l, n, rfl, rfl, h0, hn, c, q2⟩ := q2
    obtain ⟨a, vs, rfl, h3, h4⟩ := Rep.mono e2 _ _ h1
    have hy : y = .int n := h2
    subst hy
    refine .inr ⟨a, n, vs, rfl, rfl, exr_lst r2.r3.ex h3, by omega, by omega, by rw [RepL.length h4]; exact c, fun p hp => ?_⟩
    obtain ⟨r3, f⟩ := r2.fresh (o := .lst (List.replicate n.toNat vs).flatten) hp
    exact k S2 μ2 _ δ2 p _ (.lst (List.replicate n.toNat l).flatten) (e1.trans e2) r3 f ⟨_, rfl, RepL.rep h4 _⟩ q2⟩
/-- a list of the memory or a frozen one -/
def lstM (μ : Mem) : D → Option (List D)
  | .lst l => some l
  | .ref p => match μ p with
    | some (.lst l) => some l
    | _ => none
  | _ => none
theorem lstm_is {S : Hp} {μ : Mem} {H : Hp} (r : R3 K S μ H) {d : D} {v : V} {l : List D} (h : Rep K S d v) (e : lstM μ d = some l) : ∃ a vs, v = .ref a ∧ H a = some (.lst vs) ∧ RepL K S l vs := by
  cases d with
  | lst m => cases e; obtain ⟨a, vs, rfl, h1, h2⟩ := h; exact ⟨a, vs, rfl, exr_lst r.ex h1, h2⟩
  | ref p =>
    have h : v = .ref p := h
    unfold lstM at e
    dsimp only at e
    split at e
    · cases e
      rename_i hm
      obtain ⟨_, o, h1, vs, rfl, h2⟩ := r.mu p _ hm
      exact ⟨p, vs, h, h1, h2⟩
    · cases e
  | _ => cases e
def fCat (da db : DE) : DF := fun δ μ Q => da δ μ fun x δ1 μ1 => db δ1 μ1 fun y δ2 μ2 => ∃ l m, lstM μ2 x = some l ∧ lstM μ2 y = some m ∧ l.length + m.length ≤ sizeLine ∧ Q (.lst (l ++ m)) δ2 μ2
theorem f_cat {a b : Expr} {pos : Pos} {ta tb : TE} {da db : DE} (ha : PD K Z X a ta da) (hb : PD K Z X b tb db) : PDF K Z X (.BinOp a .Add b pos) (tOp rCat ta tb) (fCat da db) :=
  ⟨pe_op op_cat ha.p hb.p, fun B hB S μ H σ δ Q QF rl k q => by
    refine ha.s B hB S μ H σ δ _ _ rl (fun S1 μ1 H1 δ1 x dx e1 r1 h1 q1 => ?_) q
    refine hb.s B hB S1 μ1 H1 σ δ1 _ _ r1 (fun S2 μ2 H2 δ2 y dy e2 r2 h2 q2 => ?_) q1
    obtain ⟨l, m, el, em, c, q2⟩ := q2
    obtain ⟨a, vs, rfl, h3, h4⟩ := lstm_is r2.r3 (Rep.mono e2 _ _ h1) el
    obtain ⟨b, ws, rfl, h5, h6⟩ := lstm_is r2.r3 h2 em
    refine ⟨a, b, vs, ws, rfl, rfl, h3, h5, by rw [RepL.length h4, RepL.length h6]; exact c, fun p hp => ?_⟩
    obtain ⟨r3, f⟩ := r2.fresh (o := .lst (vs ++ ws)) hp
    exact k S2 μ2 _ δ2 p _ (.lst (l ++ m)) (e1.trans e2) r3 f ⟨_, rfl, RepL.append h4 h6⟩ q2⟩
def fSl (de : DE) (dl dh : DO) : DF := fun δ μ Q => de δ μ fun x δ1 μ1 => dl δ1 μ1 fun lo δ2 μ2 => dh δ2 μ2 fun hi δ3 μ3 => ∃ l, (∀ m, x ≠ .tup m) ∧ seqOf μ3 x = some l ∧ Q (.lst (cutD l lo hi)) δ3 μ3
theorem f_slice {e : Expr} {lo hi : Option Expr} {p2 pos : Pos} {te : TE} {tl th : TO} {de : DE} {dl dh : DO} (he : PD K Z X e te de) (hl : PDO K Z X lo tl dl) (hh : PDO K Z X hi th dh) (hk : X.K = K := by rfl) :
    PDF K Z X (.Subscript e (.Slice lo hi none p2) pos) (tSl (rSlAll K) te tl th) (fSl de dl dh) := by
  subst hk
  exact ⟨pe_slice (sl_str.or (sl_tupA.or sl_list)) he.p hl.p hh.p, fun B hB S μ H σ δ Q QF rl k q => by
    refine he.s B hB S μ H σ δ _ _ rl (fun S1 μ1 H1 δ1 x dx e1 r1 hx q1 => ?_) q
    refine hl.s B hB S1 μ1 H1 σ δ1 _ _ r1 (fun S2 μ2 H2 δ2 lo e2 r2 q2 => ?_) q1
    refine hh.s B hB S2 μ2 H2 σ δ2 _ _ r2 (fun S3 μ3 H3 δ3 hi e3 r3 q3 => ?_) q2
    obtain ⟨l, hn, e, q⟩ := q3
    obtain ⟨a, vs, rfl, h1, h2⟩ := seq_isL r3.r3 (Rep.mono (e2.trans e3) _ _ hx) hn e
    refine .inr (.inr ⟨a, vs, rfl, h1, fun p hp => ?_⟩)
    obtain ⟨r4, f⟩ := r3.fresh (o := .lst (cutV vs lo hi)) hp
    exact k S3 μ3 _ δ3 p _ (.lst (cutD l lo hi)) ((e1.trans e2).trans e3) r4 f ⟨_, rfl, RepL.cut h2 lo hi⟩ q⟩
variable {δ : Ss} {μ : Mem} {nx : Ss → Mem → Prop} {rt : QM} {bk ct : Ss → Mem → Prop} {Q : QE} {QM' : QM} {QF : MO → Ss → Mem → Prop}
instance st_cell {df : DF} : Step (dCell df δ μ Q) (df δ μ fun m δ1 μ1 => ∀ p, μ1 p = none → Q (.ref p) δ1 (updM μ1 p m)) := ⟨id⟩
instance st_fRep {da db : DE} : Step (fRep da db δ μ QF) (da δ μ fun x δ1 μ1 => db δ1 μ1 fun y δ2 μ2 => ∃ l n, x = .lst l ∧ y = .int n ∧ 0 ≤ n ∧ n ≤ 10000 ∧ l.length * n.toNat ≤ sizeLine ∧ QF (.lst (List.replicate n.toNat l).flatten) δ2 μ2) := ⟨id⟩
instance st_fCat {da db : DE} : Step (fCat da db δ μ QF) (da δ μ fun x δ1 μ1 => db δ1 μ1 fun y δ2 μ2 => ∃ l m, lstM μ2 x = some l ∧ lstM μ2 y = some m ∧ l.length + m.length ≤ sizeLine ∧ QF (.lst (l ++ m)) δ2 μ2) := ⟨id⟩
instance st_fSl {de : DE} {dl dh : DO} : Step (fSl de dl dh δ μ QF) (de δ μ fun x δ1 μ1 => dl δ1 μ1 fun lo δ2 μ2 => dh δ2 μ2 fun hi δ3 μ3 => ∃ l, (∀ m, x ≠ .tup m) ∧ seqOf μ3 x = some l ∧ QF (.lst (cutD l lo hi)) δ3 μ3) := ⟨id⟩
theorem for_rngC {lo c : Int} {n : Nat} {dg : DG} {db : DS} (I : Nat → Ss → Mem → Prop) (h0 : Wn (I 0) δ μ) (turn : ∀ i δ μ, i < n → I i δ μ → dg (.int (lo + (i : Nat) * c)) δ μ fun δ2 μ2 => db ⟨Wn (I (i + 1)), rt, nx, Wn (I (i + 1))⟩ δ2 μ2) (hd : ∀ δ μ, I n δ μ → nx δ μ) :
    ForG (rangeC lo c n) (fun _ => True) dg db nx rt δ μ := by
  refine ⟨I, h0, fun _ _ _ _ _ => trivial, fun i d δ μ e w => ?_, fun δ μ w => ?_⟩
  · obtain ⟨hi, rfl⟩ := rangeC_get e
    exact turn i δ μ hi w
  · rw [rangeC_len] at w
    exact hd δ μ w
end Dl

namespace Dl
open PySem PySem.Spec PyProof.Rows L2
variable {X : Cx} {K : PySem.W.Frag} {Z : Bs}
/-! ### x[lo::2] of a list -/
def pickB (n : Nat) (lo : Option Int) : List Nat := sliceRange (sliceBounds lo none (some 2) n).1 (sliceBounds lo none (some 2) n).2.1 (sliceBounds lo none (some 2) n).2.2
def pick2 {α : Type} (l : List α) (lo : Option Int) : List α := (pickB l.length lo).filterMap (l[·]?)
theorem pick2_len {α : Type} (l : List α) (lo : Option Int) : (pick2 l lo).length ≤ l.length := by
  refine Nat.le_trans (List.length_filterMap_le ..) ?_
  unfold pickB
  refine sliceRange_length_le _ _ _ _ (fun _ => ?_) (fun h => absurd (show (2 : Int) > 0 by decide) h)
  cases lo with
  | none => exact ⟨Int.le_refl _, Int.le_refl _⟩
  | some v => exact ⟨by show 0 ≤ max 0 _; omega, Int.le_refl _⟩
theorem RepL.pickI {S : Hp} {l : List D} {vs : List V} (h : RepL K S l vs) : ∀ is : List Nat, RepL K S (is.filterMap (l[·]?)) (is.filterMap (vs[·]?))
  | [] => rfl
  | i :: is => by
    have ih := RepL.pickI h is
    cases e : l[i]? with
    | none =>
      have e2 : vs[i]? = none := List.getElem?_eq_none (by rw [RepL.length h]; exact List.getElem?_eq_none_iff.mp e)
      rw [List.filterMap_cons_none e, List.filterMap_cons_none e2]
      exact ih
    | some d =>
      obtain ⟨v, e2, hv⟩ := RepL.get h e
      rw [List.filterMap_cons_some e, List.filterMap_cons_some e2]
      exact ⟨v, _, rfl, hv, ih⟩
theorem vals_pickI {xs : List V} {its : List Value} (r : Vals xs its) : ∀ is : List Nat, Vals (is.filterMap (xs[·]?)) (is.filterMap (its[·]?))
  | [] => .nil
  | i :: is => by
    have ih := vals_pickI r is
    cases e : xs[i]? with
    | none =>
      have e2 : its[i]? = none := List.getElem?_eq_none (by rw [← r.length]; exact List.getElem?_eq_none_iff.mp e)
      rw [List.filterMap_cons_none e, List.filterMap_cons_none e2]
      exact ih
    | some d =>
      obtain ⟨v, e2, hv⟩ := r.get e
      rw [List.filterMap_cons_some e, List.filterMap_cons_some e2]
      exact .cons hv ih
def tSl2 (K : PySem.W.Frag) (te : TE) (tl : TO) : TE := fun σ H Q => te σ H fun x H1 => tl σ H1 fun o H2 => ∃ a xs, x = .ref a ∧ SqL K H2 a xs ∧ ∀ p, H2 p = none → Q (.ref p) (upd H2 p (.lst (pick2 xs o)))
theorem pe_sl2 {e : Expr} {te : TE} {lo : Option Expr} {tl : TO} {k : Nat} {p1 p3 pos : Pos} (he : PE X e te) (hl : PO X lo tl) : PE X (.Subscript e (.Slice lo none (some (.Constant (.int 2) k p1)) p3) pos) (tSl2 X.K te tl) := by
  refine ⟨fun pins s σ H Q I h => Subscript_ (thn (he.run pins s σ H _ I h) fun v s1 ⟨x, H1, I1, r1, q1⟩ => ?_)⟩
  have hst : PO X (some (.Constant (.int 2) k p1)) (tPart (tC (.int 2))) := po_some pe_int
  refine wpAny_Slice (thn (hl.run pins s1 σ H1 _ I1 q1) fun vl s2 ⟨l, H2, I2, pl, q2⟩ => ?_)
  refine thn (po_none.run pins s2 σ H2 (fun o H3 => o = none ∧ H3 = H2) I2 ⟨rfl, rfl⟩) fun vu s3 ⟨u, H3, I3, pu, eu, e3⟩ => ?_
  subst eu e3
  refine thn (hst.run pins s3 σ H3 (fun o H4 => o = some 2 ∧ H4 = H3) I3 ⟨2, rfl, rfl, rfl⟩) fun vs s4 ⟨o, H4, I4, ps, eo, e4⟩ => ?_
  subst eo e4
  have I5 : Inv X pins σ H4 { s4 with heap := s4.heap.push { cls := .type "slice", data := .fields #[vl, vu, vs] } } := I4.kept (t' := s4.toks) fun b ob q => Heap.get?_push_of_some _ q
  obtain ⟨a, xs, rfl, hx, q⟩ := q2
  cases r1
  obtain ⟨its, r, ht, hz⟩ := I5.list hx
  have hlen := r.length
  show wpAny (model X.prog X.w) X.A (subscriptTail e (.Slice lo none (some (.Constant (.int 2) k p1)) p3) (.ref a) (.ref s4.heap.objs.size)) (EP X pins σ Q) X.xe { s4 with heap := s4.heap.push { cls := .type "slice", data := .fields #[vl, vu, vs] } }
  refine tail_any (ops := [.ref a, .ref s4.heap.objs.size]) ht.isList.typeIs (PySem.slot_list_getitem.lookup) ?_ (by with_unfolding_all rfl)
  refine wpAny_getItem_list_slice ht.isList (Heap.IsSliceOf.new _ vl vu vs) pl pu ps (by decide) ?_ (by rw [List.size_toArray]; omega)
  have ep : slicePick its.toArray l none (some 2) = (pick2 its l).toArray := by
    unfold slicePick pick2 pickB
    rw [List.size_toArray]
    simp only [List.getElem?_toArray]
  rw [ep]
  refine ⟨.ref _, _, I5.laid (t' := s4.toks) (o := .lst (pick2 xs l)) (fun b ob q => Heap.get?_push_of_some _ q) (Nat.le_refl _) ?_, rfl, q _ (I5.hok.fresh (Nat.le_refl _))⟩
  refine ⟨Nat.le_trans (pick2_len xs l) hz, pick2 its l, 0, ?_, Heap.get?_push_size _ rfl⟩
  unfold pick2
  rw [← hlen]
  exact vals_pickI r _
def dSl2 (de : DE) (dl : DO) : DE := fun δ μ Q => de δ μ fun x δ1 μ1 => dl δ1 μ1 fun o δ2 μ2 => ∃ l, (∀ m, x ≠ .tup m) ∧ seqOf μ2 x = some l ∧ Q (.lst (pick2 l o)) δ2 μ2
theorem d_sl2 {e : Expr} {te : TE} {lo : Option Expr} {tl : TO} {de : DE} {dl : DO} {k : Nat} {p1 p3 pos : Pos} (he : PD K Z X e te de) (hl : PDO K Z X lo tl dl) (hk : X.K = K := by rfl) : PD K Z X (.Subscript e (.Slice lo none (some (.Constant (.int 2) k p1)) p3) pos) (tSl2 K te tl) (dSl2 de dl) := by
  subst hk
  exact ⟨pe_sl2 he.p hl.p, fun B hB S μ H σ δ Q QD rl k q => by
    refine he.s B hB S μ H σ δ _ _ rl (fun S1 μ1 H1 δ1 x dx e1 r1 hx q1 => ?_) q
    refine hl.s B hB S1 μ1 H1 σ δ1 _ _ r1 (fun S2 μ2 H2 δ2 lo e2 r2 q2 => ?_) q1
    obtain ⟨l, hn, e, q⟩ := q2
    obtain ⟨a, vs, rfl, hs, h2⟩ := seq_isL r2.r3 (Rep.mono e2 _ _ hx) hn e
    refine ⟨a, vs, rfl, hs, fun p hp => ?_⟩
    obtain ⟨r4, g⟩ := r2.r3.alloc (o := .lst (pick2 vs lo)) hp
    refine k _ μ2 _ δ2 _ (.lst (pick2 l lo)) ((e1.trans e2).trans g.ex) (r2.grow g r4) ⟨p, _, rfl, upd_same, RepL.mono g.ex _ _ ?_⟩ q
    unfold pick2
    rw [RepL.length h2]
    exact RepL.pickI h2 _⟩
/-- every second one -/
def evL {α : Type} : List α → List α
  | [] => []
  | [a] => [a]
  | a :: _ :: l => a :: evL l
theorem evL_get {α : Type} : ∀ (l : List α) (i : Nat), (evL l)[i]? = l[2 * i]?
  | [], i => by simp [evL]
  | [a], 0 => rfl
  | [a], i + 1 => by rw [List.getElem?_eq_none (by simp [evL]), List.getElem?_eq_none (by simp; omega)]
  | a :: b :: l, 0 => rfl
  | a :: b :: l, i + 1 => by
    show (evL l)[i]? = _
    rw [evL_get l i, show 2 * (i + 1) = 2 * i + 1 + 1 by omega, List.getElem?_cons_succ, List.getElem?_cons_succ]
theorem evL_map {α β : Type} (f : α → β) : ∀ l : List α, evL (l.map f) = (evL l).map f
  | [] => rfl
  | [a] => rfl
  | a :: b :: l => by
    show f a :: evL (l.map f) = f a :: (evL l).map f
    rw [evL_map f l]
theorem evL_len {α : Type} : ∀ l : List α, (evL l).length = (l.length + 1) / 2
  | [] => by simp [evL]
  | [a] => by simp [evL]
  | a :: b :: l => by
    show (evL l).length + 1 = (l.length + 1 + 1 + 1) / 2
    rw [evL_len l]
    omega
theorem evL_mem {α : Type} {l : List α} {x : α} (h : x ∈ evL l) : x ∈ l := by
  obtain ⟨i, hi, e⟩ := List.getElem_of_mem h
  have := evL_get l i
  rw [List.getElem?_eq_getElem hi, e] at this
  exact List.mem_of_getElem? this.symm
theorem evL_range {α : Type} : ∀ l : List α, (List.range ((l.length + 1) / 2)).filterMap (fun i => l[2 * i]?) = evL l
  | [] => by simp [evL]
  | [a] => by simp [evL]
  | a :: b :: l => by
    have e : ((a :: b :: l).length + 1) / 2 = (l.length + 1) / 2 + 1 := by simp only [List.length_cons]; omega
    rw [e, List.range_succ_eq_map, List.filterMap_cons_some (f := fun i => (a :: b :: l)[2 * i]?) (b := a) rfl, List.filterMap_map]
    show a :: _ = a :: evL l
    rw [← evL_range l]
    congr 1
theorem pick2_0 {α : Type} (l : List α) : pick2 l none = evL l := by
  rw [← evL_range l]
  unfold pick2 pickB
  have e : sliceRange (sliceBounds none none (some 2) l.length).1 (sliceBounds none none (some 2) l.length).2.1 (sliceBounds none none (some 2) l.length).2.2 = (List.range ((l.length + 1) / 2)).map fun i => 2 * i := by
    show sliceRange 0 (l.length : Int) 2 = _
    unfold sliceRange
    have e1 : (if (2 : Int) > 0 then (if (0 : Int) < l.length then ((l.length : Int) - 0 + 2 - 1) / 2 else 0) else (if (0 : Int) > l.length then (0 - (l.length : Int) - 2 - 1) / (-2) else 0)).toNat = (l.length + 1) / 2 := by
      rw [if_pos (by decide)]
      split <;> omega
    dsimp only
    rw [e1]
    refine List.map_congr_left fun i _ => ?_
    omega
  rw [e, List.filterMap_map]
  rfl
theorem pick2_1 {α : Type} (l : List α) : pick2 l (some 1) = evL (l.drop 1) := by
  cases l with
  | nil => rfl
  | cons a l =>
    show _ = evL l
    rw [← evL_range l]
    unfold pick2 pickB
    have e : sliceRange (sliceBounds (some 1) none (some 2) (a :: l).length).1 (sliceBounds (some 1) none (some 2) (a :: l).length).2.1 (sliceBounds (some 1) none (some 2) (a :: l).length).2.2 = (List.range ((l.length + 1) / 2)).map fun i => 2 * i + 1 := by
      have e0 : (sliceBounds (some 1) none (some 2) (a :: l).length) = (1, ((l.length + 1 : Nat) : Int), 2) := by
        show (max 0 (min 1 (((a :: l).length : Nat) : Int)), (((a :: l).length : Nat) : Int), (2 : Int)) = _
        rw [List.length_cons]
        refine Prod.ext ?_ rfl
        show max 0 (min 1 (((l.length + 1 : Nat)) : Int)) = 1
        omega
      rw [e0]
      show sliceRange 1 ((l.length + 1 : Nat) : Int) 2 = _
      unfold sliceRange
      have e1 : (if (2 : Int) > 0 then (if (1 : Int) < ((l.length + 1 : Nat) : Int) then (((l.length + 1 : Nat) : Int) - 1 + 2 - 1) / 2 else 0) else (if (1 : Int) > ((l.length + 1 : Nat) : Int) then (1 - ((l.length + 1 : Nat) : Int) - 2 - 1) / (-2) else 0)).toNat = (l.length + 1) / 2 := by
        rw [if_pos (by decide)]
        split <;> omega
      dsimp only
      rw [e1]
      refine List.map_congr_left fun i _ => ?_
      omega
    rw [e, List.filterMap_map]
    rfl
variable {δ : Ss} {μ : Mem} {nx : Ss → Mem → Prop} {rt : QM} {bk ct : Ss → Mem → Prop} {Q : QE} {QM' : QM}
def Sl2 (x : D) (o : Option Int) (μ : Mem) (R : D → Prop) : Prop := ∃ l, (∀ m, x ≠ .tup m) ∧ seqOf μ x = some l ∧ R (.lst (pick2 l o))
instance st_sl2 {de : DE} {dl : DO} : Step (dSl2 de dl δ μ Q) (de δ μ fun x δ1 μ1 => dl δ1 μ1 fun o δ2 μ2 => Sl2 x o μ2 fun d => Q d δ2 μ2) := ⟨id⟩
instance st_sl20 {l : List D} {R : D → Prop} : Step (Sl2 (.lst l) none μ R) (R (.lst (evL l))) := ⟨fun h => ⟨l, (fun _ z => nomatch z), rfl, by rw [pick2_0]; exact h⟩⟩
instance st_sl21 {l : List D} {R : D → Prop} : Step (Sl2 (.lst l) (some 1) μ R) (R (.lst (evL (l.drop 1)))) := ⟨fun h => ⟨l, (fun _ z => nomatch z), rfl, by rw [pick2_1]; exact h⟩⟩
end Dl

namespace Dl
open PySem PySem.Spec PyProof.Rows L2
variable {X : Cx} {K : PySem.W.Frag} {Z : Bs}
/-! ### a dict that is locked while an expression walks it -/
def dLockE (de : DE) : DE := fun δ μ Q => ∃ p l, μ p = some (.dct l) ∧ ∀ od kvs, de δ (updM μ p (.lck od kvs l)) fun d δ' μ' => μ' p = some (.lck od kvs l) ∧ Q d δ' (updM μ' p (.dct l))
theorem simLockE {te : TE} {de : DE} (h : SimE K Z te de) : SimE K Z (tLockE te) (dLockE de) := fun B hB S μ H σ δ Q QD rl k q => by
  obtain ⟨p, l, hp, q⟩ := q
  obtain ⟨hs, o, h1, kvs, rfl, h2⟩ := rl.r3.mu p _ hp
  refine ⟨p, .dK kvs, h1, trivial, fun od => ?_⟩
  obtain ⟨r4, g⟩ := rl.r3.write hp (o := .frz od (.dK kvs)) (m := .lck od kvs l) ⟨rfl, h2⟩
  refine h B hB S _ _ σ δ _ _ (rl.grow g r4) (fun S' μ' H' δ' v d e r hv w => ?_) (q od kvs)
  obtain ⟨hs', o, g1, rfl, g2⟩ := r.r3.mu p _ w.1
  obtain ⟨r5, g5⟩ := r.r3.write w.1 (o := .dK kvs) (m := .dct l) ⟨_, rfl, g2⟩
  exact ⟨g1, k S' _ _ δ' v d e (r.grow g5 r5) hv w.2⟩
theorem d_lockE {e : Expr} {te : TE} {de : DE} (h : PD K Z X e te de) : PD K Z X e (tLockE te) (dLockE de) := ⟨pe_lock h.p, simLockE h.s⟩
/-! ### a part of a slice that may be None -/
def tPartN (t : TE) : TO := fun σ H Q => t σ H fun x H1 => (x = .non ∧ Q none H1) ∨ ∃ i, x = .int i ∧ Q (some i) H1
theorem po_someN {e : Expr} {te : TE} (h : PE X e te) : PO X (some e) (tPartN te) := by
  refine ⟨fun pins s σ H Q I hw => ?_⟩
  rw [evalPart_some]
  refine thn (h.run pins s σ H _ I hw) fun u s1 ⟨x, H1, I1, r1, q1⟩ => ?_
  rcases q1 with ⟨rfl, q⟩ | ⟨i, rfl, q⟩
  · cases r1
    exact ⟨none, H1, I1, .none, q⟩
  · obtain ⟨t, rfl⟩ := r1
    exact ⟨some i, H1, I1, .int i t, q⟩
def dPartN (de : DE) : DO := fun δ μ Q => de δ μ fun x δ1 μ1 => (x = .non ∧ Q none δ1 μ1) ∨ ∃ i, x = .int i ∧ Q (some i) δ1 μ1
theorem po_sN {e : Expr} {te : TE} {de : DE} (h : PD K Z X e te de) : PDO K Z X (some e) (tPartN te) (dPartN de) := ⟨po_someN h.p, fun B hB S μ H σ δ Q QD rl k q => by
  refine h.s B hB S μ H σ δ _ _ rl (fun S1 μ1 H1 δ1 x dx e1 r1 hx q1 => ?_) q
  rcases q1 with ⟨rfl, q1⟩ | ⟨i, rfl, q1⟩
  · exact .inl ⟨hx, k S1 μ1 H1 δ1 _ e1 r1 q1⟩
  · exact .inr ⟨i, hx, k S1 μ1 H1 δ1 _ e1 r1 q1⟩⟩
variable {δ : Ss} {μ : Mem}
instance st_partN {de : DE} {R : Option Int → Ss → Mem → Prop} : Step (dPartN de δ μ R) (de δ μ fun x δ1 μ1 => (x = .non ∧ R none δ1 μ1) ∨ ∃ i, x = .int i ∧ R (some i) δ1 μ1) := ⟨id⟩
instance st_lockE {de : DE} {Q : QE} : Step (dLockE de δ μ Q) (∃ p l, μ p = some (.dct l) ∧ ∀ od kvs, de δ (updM μ p (.lck od kvs l)) fun d δ' μ' => μ' p = some (.lck od kvs l) ∧ Q d δ' (updM μ' p (.dct l))) := ⟨id⟩
end Dl

namespace Dl
open PySem PySem.Spec PyProof.Rows L2
open PySem.SeqAt MeetsSeq MeetsSeq2 MeetsSeq3 SeqRoads2
open AutoSeq1 (wpAny_loadPart')
open GQ (FinOf)
section
variable {prog : Program} {w : World} {A : Around} {R : Result → Shared → Prop} {E : Value → Shared → Prop}
/-! ### == of two tuples whose items are compared by own code -/
theorem tup_eqB (l b : Addr) (items items2 : Array Value) (n n2 : Nat) (dd dd2 : Option Addr) (sl sl2 : Array (Option Value)) (I : Nat → Shared → Prop) (J : Shared → Prop)
    (turn : ∀ i (h1 : i < items.size) (h2 : i < items2.size) s, I i s → wpAny (model prog w) A.in1 (eqBool items[i] items2[i]) (fun r s' => (r = true ∧ I (i + 1) s') ∨ (r = false ∧ J s')) (fun e s' => R (.error e) s') s)
    (fin : ∀ s, I (min items.size items2.size) s → R (.ok (.ret (.bool (items.size == items2.size)))) s) (no : ∀ s, J s → R (.ok (.ret (.bool false))) s) {s : Shared} (hl1 : s.heap.get? l = some { cls := .type "tuple", dict := dd, data := .seq items n, slots := sl }) (hb1 : s.heap.get? b = some { cls := .type "tuple", dict := dd2, data := .seq items2 n2, slots := sl2 }) (h : I 0 s) :
    wpAny (model prog w) A.in1 (Builtin.«tuple.__eq__» ⟨[.ref l, .ref b], []⟩) (FinOf prog w A R) (fun e s' => R (.error e) s') s := by
  have f2 := AutoSeq1.sub_tuple_tuple
  have zl : (items.toList.zip items2.toList).length = min items.size items2.size := by simp
  have h0 := h
  obtain ⟨hp, g, d, tk, os⟩ := s
  wp_walk using wpAny_loadPart' hl1, wpAny_loadPart' hb1, wpAny_forIn_list _ (fun rest b s' => b.1 = none ∧ ∃ i, rest = (items.toList.zip items2.toList).drop i ∧ i ≤ min items.size items2.size ∧ I i s') _
  case turn =>
    rintro ⟨y, x⟩ rest b s' ⟨hb', i, hz, hi, hI⟩
    have lt : i < (items.toList.zip items2.toList).length := Nat.lt_of_not_le fun q => by rw [List.drop_of_length_le q] at hz; cases hz
    have lm : i < min items.size items2.size := by rw [← zl]; exact lt
    rw [List.drop_eq_getElem_cons lt] at hz
    injection hz with e1 e2
    have ey : y = items[i]'(by omega) := by simpa using congrArg Prod.fst e1
    have ex : x = items2[i]'(by omega) := by simpa using congrArg Prod.snd e1
    subst ey ex
    refine wpAny_bind (wpAny_mono (turn i (by omega) (by omega) s' hI) (fun r s2 q2 => ?_) fun _ _ x => x)
    rcases q2 with ⟨rfl, q2⟩ | ⟨rfl, q2⟩
    · wp_walk
      exact ⟨rfl, i + 1, e2, lm, q2⟩
    · have q2 := no s2 q2
      wp_walk
      exact q2
  case fin =>
    rintro ⟨b1, b2⟩ s' ⟨hb', i, hz, hi, hI⟩
    simp only at hb'
    subst hb'
    have ge : min items.size items2.size ≤ i := Nat.le_of_not_lt fun q => by
      rw [List.drop_eq_getElem_cons (by rw [zl]; exact q)] at hz
      cases hz
    have ei : i = min items.size items2.size := Nat.le_antisymm hi ge
    have hR := fin s' (ei ▸ hI)
    wp_walk
    simpa [Builtin.Tuple.tupleCompareSizes] using hR
  case h => exact ⟨rfl, 0, rfl, Nat.zero_le _, h0⟩
theorem tup_neB (l b : Addr) (items items2 : Array Value) (n n2 : Nat) (dd dd2 : Option Addr) (sl sl2 : Array (Option Value)) (I : Nat → Shared → Prop) (J : Shared → Prop)
    (turn : ∀ i (h1 : i < items.size) (h2 : i < items2.size) s, I i s → wpAny (model prog w) A.in1 (eqBool items[i] items2[i]) (fun r s' => (r = true ∧ I (i + 1) s') ∨ (r = false ∧ J s')) (fun e s' => R (.error e) s') s)
    (fin : ∀ s, I (min items.size items2.size) s → R (.ok (.ret (.bool (items.size != items2.size)))) s) (no : ∀ s, J s → R (.ok (.ret (.bool true))) s) {s : Shared} (hl1 : s.heap.get? l = some { cls := .type "tuple", dict := dd, data := .seq items n, slots := sl }) (hb1 : s.heap.get? b = some { cls := .type "tuple", dict := dd2, data := .seq items2 n2, slots := sl2 }) (h : I 0 s) :
    wpAny (model prog w) A.in1 (Builtin.«tuple.__ne__» ⟨[.ref l, .ref b], []⟩) (FinOf prog w A R) (fun e s' => R (.error e) s') s := by
  have f2 := AutoSeq1.sub_tuple_tuple
  have zl : (items.toList.zip items2.toList).length = min items.size items2.size := by simp
  have h0 := h
  obtain ⟨hp, g, d, tk, os⟩ := s
  wp_walk using wpAny_loadPart' hl1, wpAny_loadPart' hb1, wpAny_forIn_list _ (fun rest b s' => b.1 = none ∧ ∃ i, rest = (items.toList.zip items2.toList).drop i ∧ i ≤ min items.size items2.size ∧ I i s') _
  case turn =>
    rintro ⟨y, x⟩ rest b s' ⟨hb', i, hz, hi, hI⟩
    have lt : i < (items.toList.zip items2.toList).length := Nat.lt_of_not_le fun q => by rw [List.drop_of_length_le q] at hz; cases hz
    have lm : i < min items.size items2.size := by rw [← zl]; exact lt
    rw [List.drop_eq_getElem_cons lt] at hz
    injection hz with e1 e2
    have ey : y = items[i]'(by omega) := by simpa using congrArg Prod.fst e1
    have ex : x = items2[i]'(by omega) := by simpa using congrArg Prod.snd e1
    subst ey ex
    refine wpAny_bind (wpAny_mono (turn i (by omega) (by omega) s' hI) (fun r s2 q2 => ?_) fun _ _ x => x)
    rcases q2 with ⟨rfl, q2⟩ | ⟨rfl, q2⟩
    · wp_walk
      exact ⟨rfl, i + 1, e2, lm, q2⟩
    · have q2 := no s2 q2
      wp_walk
      exact q2
  case fin =>
    rintro ⟨b1, b2⟩ s' ⟨hb', i, hz, hi, hI⟩
    simp only at hb'
    subst hb'
    have ge : min items.size items2.size ≤ i := Nat.le_of_not_lt fun q => by
      rw [List.drop_eq_getElem_cons (by rw [zl]; exact q)] at hz
      cases hz
    have ei : i = min items.size items2.size := Nat.le_antisymm hi ge
    have hR := fin s' (ei ▸ hI)
    wp_walk
    simpa [Builtin.Tuple.tupleCompareSizes] using hR
  case h => exact ⟨rfl, 0, rfl, Nat.zero_le _, h0⟩
end
end Dl

namespace Dl
open PySem PySem.Spec PyProof.Rows L2
open PySem.SeqAt MeetsSeq MeetsSeq2 MeetsSeq3 SeqRoads2
open AutoSeq1 (wpAny_loadPart')
open GQ (FinOf)
/-! ### == by own code: objects of own classes, lists and tuples of such -/
section
variable {prog : Program} {w : World} {A : Around} {R : Result → Shared → Prop}
/-- the list's own loop: item by item -/
def LoopB (prog : Program) (w : World) (A : Around) (E : Value → Shared → Prop) (l b : Addr) (N : Nat) (I : Nat → Shared → Prop) (J : Shared → Prop) : Prop :=
  (∀ i s, I i s → ∃ (items items2 : Array Value) (n n2 : Nat), s.heap.get? l = some { cls := .type "list", data := .seq items n } ∧ s.heap.get? b = some { cls := .type "list", data := .seq items2 n2 } ∧ items.size = N ∧ items2.size = N ∧
    ∀ (h1 : i < items.size) (h2 : i < items2.size), wpAny (model prog w) A.in1 (eqBool items[i] items2[i]) (fun r s' => (r = true ∧ I (i + 1) s') ∨ (r = false ∧ J s')) E s) ∧
  ∀ s, J s → ∃ (items items2 : Array Value) (n n2 : Nat), s.heap.get? l = some { cls := .type "list", data := .seq items n } ∧ s.heap.get? b = some { cls := .type "list", data := .seq items2 n2 } ∧ items.size = N ∧ items2.size = N
theorem eq_loopB (l b : Addr) (N : Nat) (I : Nat → Shared → Prop) (J : Shared → Prop) (hl : LoopB prog w A (fun e s' => R (.error e) s') l b N I J)
    (fin : ∀ s, I N s → R (.ok (.ret (.bool true))) s) (no : ∀ s, J s → R (.ok (.ret (.bool false))) s) (k : Nat) :
    ∀ i : Nat, N - i = k → i ≤ N → ∀ s, I i s →
      wpAny (model prog w) A.in1 (Builtin.«list.__eq__.loop» ⟨[.ref l, .ref b, rawInt i, rawInt 2], []⟩) (FinOf prog w A R) (fun e s' => R (.error e) s') s := by
  induction k with
  | zero =>
    intro i hk hi s h
    obtain ⟨items, items2, n, n2, hl1, hb1, hs1, hs2, _⟩ := hl.1 _ _ h
    have hi' : i = N := by omega
    have hR : R (.ok (.ret (.bool true))) s := fin s (hi' ▸ h)
    obtain ⟨hp, g, d, tk, os⟩ := s
    wp_walk using wpAny_loadPart' hl1, wpAny_loadPart' hb1
    have hi1 : items[((i : Nat) : Int).toNat]? = none := by simp; omega
    have hi2 : items2[((i : Nat) : Int).toNat]? = none := by simp; omega
    rw [hi1, hi2]
    wp_walk using wpAny_loadPart' hl1, wpAny_loadPart' hb1
    show R (.ok (.ret (.bool (items.size == items2.size)))) _
    rw [hs1, hs2]
    simpa using hR
  | succ k ih =>
    intro i hk hi s h
    obtain ⟨items, items2, n, n2, hl1, hb1, hs1, hs2, turn⟩ := hl.1 _ _ h
    have hlt : i < items.size := by omega
    have hlt2 : i < items2.size := by omega
    have ht := turn hlt hlt2
    obtain ⟨hp, g, d, tk, os⟩ := s
    wp_walk using wpAny_loadPart' hl1, wpAny_loadPart' hb1
    have hi1 : items[((i : Nat) : Int).toNat]? = some items[i] := by simp [hlt]
    have hi2 : items2[((i : Nat) : Int).toNat]? = some items2[i] := by simp [hlt2]
    have hc : ((i : Int) + 1) = ((i + 1 : Nat) : Int) := by omega
    rw [hi1, hi2]
    refine wpAny_bind (wpAny_mono ht (fun r s2 h2 => ?_) fun _ _ x => x)
    rcases h2 with ⟨rfl, h2⟩ | ⟨rfl, h2⟩
    · have hrec := ih (i + 1) (by omega) (by omega) s2 h2
      obtain ⟨hp2, g2, d2, tk2, os2⟩ := s2
      wp_walk
      rw [hc]
      exact ⟨plainId_quiet plain_eq_loop _, codeAny_builtin entry_eq_loop (by
        rw [Around.under_plainId plain_eq_loop _]
        exact hrec)⟩
    · obtain ⟨its, its2, m, m2, hl2, hb2, hs3, hs4⟩ := hl.2 _ h2
      have hR := no s2 h2
      obtain ⟨hp2, g2, d2, tk2, os2⟩ := s2
      wp_walk using wpAny_loadPart' hl2, wpAny_loadPart' hb2
      have hj1 : its[((i : Nat) : Int).toNat]? = some its[i] := by simp
      have hj2 : its2[((i : Nat) : Int).toNat]? = some its2[i] := by simp
      rw [hj1, hj2]
      wp_walk
      exact hR
theorem list_eqB (l b : Addr) (N : Nat) (I : Nat → Shared → Prop) (J : Shared → Prop) (hl : LoopB prog w A (fun e s' => R (.error e) s') l b N I J)
    (fin : ∀ s, I N s → R (.ok (.ret (.bool true))) s) (no : ∀ s, J s → R (.ok (.ret (.bool false))) s) {s : Shared} (h : I 0 s) :
    wpAny (model prog w) A.in1 (Builtin.«list.__eq__» ⟨[.ref l, .ref b], []⟩) (FinOf prog w A R) (fun e s' => R (.error e) s') s := by
  obtain ⟨items, items2, n, n2, hl1, hb1, hs1, hs2, _⟩ := hl.1 _ _ h
  have hrec := eq_loopB (A := A) (R := R) l b N I J hl fin no _ 0 rfl (Nat.zero_le _) s h
  obtain ⟨hp, g, d, tk, os⟩ := s
  have f3 := AutoSeq1.sub_list_list
  have hne : ¬ (items.size != items2.size) = true := by simp [hs1, hs2]
  wp_walk using wpAny_loadPart' hl1, wpAny_loadPart' hb1
  exact ⟨plainId_quiet plain_eq_loop _, codeAny_builtin entry_eq_loop (by
    rw [Around.under_plainId plain_eq_loop _]
    exact hrec)⟩
theorem list_eqNo (l b : Addr) (items items2 : Array Value) (n n2 : Nat) (hne : items.size ≠ items2.size) {s : Shared} (hl1 : s.heap.get? l = some { cls := .type "list", data := .seq items n }) (hb1 : s.heap.get? b = some { cls := .type "list", data := .seq items2 n2 }) (h : R (.ok (.ret (.bool false))) s) :
    wpAny (model prog w) A.in1 (Builtin.«list.__eq__» ⟨[.ref l, .ref b], []⟩) (FinOf prog w A R) (fun e s' => R (.error e) s') s := by
  obtain ⟨hp, g, d, tk, os⟩ := s
  have f3 := AutoSeq1.sub_list_list
  have hne : (items.size != items2.size) = true := by simpa using hne
  wp_walk using wpAny_loadPart' hl1, wpAny_loadPart' hb1
  exact h
theorem contains_loopB (l : Addr) (x : Value) (N : Nat) (I : Nat → Shared → Prop) (J : Shared → Prop)
    (turn : ∀ i s, I i s → ∃ (items : Array Value) (n : Nat), s.heap.get? l = some { cls := .type "list", data := .seq items n } ∧ items.size = N ∧ ∀ (h1 : i < items.size), wpAny (model prog w) A.in1 (eqBool items[i] x) (fun r s' => (r = false ∧ I (i + 1) s') ∨ (r = true ∧ J s')) (fun e s' => R (.error e) s') s)
    (fin : ∀ s, I N s → R (.ok (.ret (.bool false))) s) (yes : ∀ s, J s → R (.ok (.ret (.bool true))) s) (k : Nat) :
    ∀ i : Nat, N - i = k → i ≤ N → ∀ s, I i s → wpAny (model prog w) A.in1 (Builtin.«list.__contains__.loop» ⟨[.ref l, x, rawInt i], []⟩) (FinOf prog w A R) (fun e s' => R (.error e) s') s := by
  induction k with
  | zero =>
    intro i hk hi s h
    obtain ⟨items, n, hl1, hs1, _⟩ := turn _ _ h
    have hi' : i = N := by omega
    have hR := fin s (hi' ▸ h)
    obtain ⟨hp, g, d, tk, os⟩ := s
    wp_walk using wpAny_loadPart' hl1
    have hi1 : items[((i : Nat) : Int).toNat]? = none := by simp; omega
    rw [hi1]
    wp_walk
    exact hR
  | succ k ih =>
    intro i hk hi s h
    obtain ⟨items, n, hl1, hs1, ht⟩ := turn _ _ h
    have hlt : i < items.size := by omega
    have ht := ht hlt
    obtain ⟨hp, g, d, tk, os⟩ := s
    wp_walk using wpAny_loadPart' hl1
    have hi1 : items[((i : Nat) : Int).toNat]? = some items[i] := by simp [hlt]
    have hc : ((i : Int) + 1) = ((i + 1 : Nat) : Int) := by omega
    rw [hi1]
    refine wpAny_bind (wpAny_mono ht (fun r s2 h2 => ?_) fun _ _ x => x)
    rcases h2 with ⟨rfl, h2⟩ | ⟨rfl, h2⟩
    · have hrec := ih (i + 1) (by omega) (by omega) s2 h2
      obtain ⟨hp2, g2, d2, tk2, os2⟩ := s2
      wp_walk
      rw [hc]
      exact ⟨plainId_quiet plain_contains_loop _, codeAny_builtin entry_contains_loop (by
        rw [Around.under_plainId plain_contains_loop _]
        exact hrec)⟩
    · have hR := yes s2 h2
      obtain ⟨hp2, g2, d2, tk2, os2⟩ := s2
      wp_walk
      exact hR
theorem list_containsB (l : Addr) (x : Value) (N : Nat) (I : Nat → Shared → Prop) (J : Shared → Prop)
    (turn : ∀ i s, I i s → ∃ (items : Array Value) (n : Nat), s.heap.get? l = some { cls := .type "list", data := .seq items n } ∧ items.size = N ∧ ∀ (h1 : i < items.size), wpAny (model prog w) A.in1 (eqBool items[i] x) (fun r s' => (r = false ∧ I (i + 1) s') ∨ (r = true ∧ J s')) (fun e s' => R (.error e) s') s)
    (fin : ∀ s, I N s → R (.ok (.ret (.bool false))) s) (yes : ∀ s, J s → R (.ok (.ret (.bool true))) s) {s : Shared} (h : I 0 s) :
    wpAny (model prog w) A.in1 (Builtin.«list.__contains__» ⟨[.ref l, x], []⟩) (FinOf prog w A R) (fun e s' => R (.error e) s') s := by
  obtain ⟨items, n, hl1, hs1, _⟩ := turn _ _ h
  have hrec := contains_loopB (A := A) (R := R) l x N I J turn fin yes _ 0 rfl (Nat.zero_le _) s h
  obtain ⟨hp, g, d, tk, os⟩ := s
  wp_walk using wpAny_loadPart' hl1
  exact ⟨plainId_quiet plain_contains_loop _, codeAny_builtin entry_contains_loop (by
    rw [Around.under_plainId plain_contains_loop _]
    exact hrec)⟩
end
/-! ### of data -/
variable {X : Cx} {K : PySem.W.Frag} {Z : Bs}
/-- == of two data below the running body: the answer b -/
def EqJ (K : PySem.W.Frag) (X : Cx) (n : Nat) (dx dy : D) (b : Bool) : Prop := ∀ (A : Around) (pins : List (Addr × Obj)) (s : Shared) (σ : L2.St) (S : Hp) (μ : Mem) (H : Hp) (x y : V) (u v : Value), Sub X n A → A.guards = some [] → Inv X pins σ H s → R3 K S μ H → Rep K S dx x → Rep K S dy y → RelV x u → RelV y v →
  wpAny (model X.prog X.w) A (eqBool u v) (fun r s' => r = b ∧ ∃ S' H', Inv X pins σ H' s' ∧ Grow S μ H S' μ H' ∧ R3 K S' μ H') X.xe s
/-- the same by the rich comparison -/
def RcJ (K : PySem.W.Frag) (X : Cx) (n : Nat) (dx dy : D) (b : Bool) : Prop := ∀ (A : Around) (pins : List (Addr × Obj)) (s : Shared) (σ : L2.St) (S : Hp) (μ : Mem) (H : Hp) (x y : V) (u v : Value), Sub X n A → A.guards = some [] → Inv X pins σ H s → R3 K S μ H → Rep K S dx x → Rep K S dy y → RelV x u → RelV y v →
  wpAny (model X.prog X.w) A (richCompare .Eq u v) (fun r s' => r = .bool b ∧ ∃ S' H', Inv X pins σ H' s' ∧ Grow S μ H S' μ H' ∧ R3 K S' μ H') X.xe s
theorem EqJ.mono {n m : Nat} {dx dy : D} {b : Bool} (h : EqJ K X n dx dy b) (hn : n ≤ m) : EqJ K X m dx dy b := fun A pins s σ S μ H x y u v sb => h A pins s σ S μ H x y u v (sb.mono hn)
theorem RcJ.mono {n m : Nat} {dx dy : D} {b : Bool} (h : RcJ K X n dx dy b) (hn : n ≤ m) : RcJ K X m dx dy b := fun A pins s σ S μ H x y u v sb => h A pins s σ S μ H x y u v (sb.mono hn)
/-- flat fields tell the data -/
theorem repF_flat {S : Hp} : ∀ {fs gs : List (Str × D)} {vs : List (Str × V)}, RepF K S fs vs → RepF K S gs vs → (∀ x ∈ fs, flatD x.2 = true) → (∀ x ∈ gs, flatD x.2 = true) → fs = gs
  | [], gs, vs, h, h', _, _ => by
    have h : vs = [] := h
    subst h
    cases gs with
    | nil => rfl
    | cons g gs => obtain ⟨k, d⟩ := g; obtain ⟨_, _, e, _⟩ := h'; cases e
  | (k, d) :: fs, gs, vs, h, h', f, f' => by
    obtain ⟨v, r, rfl, h1, h2⟩ := h
    cases gs with
    | nil => have h' : (k, v) :: r = [] := h'; cases h'
    | cons g gs =>
      obtain ⟨k', d'⟩ := g
      obtain ⟨v', r', e, h3, h4⟩ := h'
      cases e
      have f1 := f (k, d) List.mem_cons_self
      have f2 := f' (k, d') List.mem_cons_self
      have e1 : d = d' := by
        have f1 : flatD d = true := f1
        have f2 : flatD d' = true := f2
        cases d with
        | non => have h1 : v = .non := h1; subst h1; cases d' with | non => rfl | _ => first | (cases f2; done) | (cases h3; done)
        | bl b => have h1 : v = .bl b := h1; subst h1; cases d' with | bl b' => cases h3; rfl | _ => first | (cases f2; done) | (cases h3; done)
        | int i => have h1 : v = .int i := h1; subst h1; cases d' with | int i' => cases h3; rfl | _ => first | (cases f2; done) | (cases h3; done)
        | str i => have h1 : v = .str i := h1; subst h1; cases d' with | str i' => cases h3; rfl | _ => first | (cases f2; done) | (cases h3; done)
        | _ => cases f1
      rw [e1, repF_flat h2 h4 (fun x hx => f x (List.mem_cons_of_mem _ hx)) (fun x hx => f' x (List.mem_cons_of_mem _ hx))]
/-- two objects of a class that has its own == -/
theorem rcJ_own {k : Nat} {C : Str} {ps : List Str} {dsp : DSp} {fs gs : List (Str × D)} {b : Bool} (M : CalM X.prog X.w K X.mg X.base k C "__eq__" ps [] dsp) (hsp : ∀ (μ : Mem) (Q : QM) (E : DX), Q (.bl b) μ → dsp [.obj C fs, .obj C gs] μ Q E) (hk : X.K = K := by rfl) : RcJ K X k (.obj C fs) (.obj C gs) b := by
  subst hk
  intro A pins s σ S μ H x y u v sb gd I r hx hy rx ry
  obtain ⟨f, fd, F, hm, hc, hb, _⟩ := M.ex
  obtain ⟨ds, hv, hb⟩ := hb 0 (Nat.zero_le _)
  have hv : Vals [] ds := hv
  cases hv
  obtain ⟨a, ax, us, rfl, h1, h2⟩ := obj_is r hx rfl
  obtain ⟨c, cx, ws, rfl, h3, h4⟩ := obj_is r hy rfl
  cases rx
  cases ry
  obtain ⟨mA, J, _⟩ := ins_get I.hok h1
  obtain ⟨mB, J', _⟩ := ins_get I.hok h3
  obtain ⟨od, J, _⟩ := J.look
  obtain ⟨od', J', _⟩ := J'.look
  obtain ⟨m, hF⟩ := I.fr
  refine PySem.W.cmp_K (op := .Eq) (tb := .ref (He.ga X.K C)) sb.room.units0 hF I.ok.mod.kin J J'.type (by simp [PySem.W.notFirst]) hm.at_ hm.fn ?_
  have hs : up X.K dsp [.ref a, .ref c] H (fun v H' => v = .bl b ∧ ∃ S', Grow S μ H S' μ H' ∧ R3 X.K S' μ H') (WE (fun _ _ _ _ => False) σ) :=
    ⟨S, μ, [.obj C fs, .obj C gs], fun d μ' => d = .bl b ∧ μ' = μ, fun _ _ _ => False, r, ⟨_, _, rfl, hx, _, _, rfl, hy, rfl⟩, hsp μ _ _ ⟨rfl, rfl⟩, fun S' μ' H' v d g r' hv q => by
      obtain ⟨rfl, rfl⟩ := q
      exact ⟨hv, S', g, r'⟩, fun _ _ _ _ _ _ _ _ _ q => q.elim⟩
  have e0 : Env0 X.prog X.w X.K X.mg X.base A X.stack s H := by
    have e := I.env0
    exact ⟨by rw [sb.fr]; exact e.frames, e.mod, e.bs, e.bsz, e.funs, e.frf, e.hok, e.bare⟩
  have hl := F.ln _ _ _ _ hs
  have r2 : Vals [V.ref a, V.ref c] [Value.ref a, Value.ref c] := .cons rfl (.cons rfl .nil)
  refine wpAny_call (codeAny_mono (F.go A X.stack s H ⟨[.ref a, .ref c], []⟩ [.ref a, .ref c] [.ref a, .ref c] _ _ gd sb.room e0 (by
    have := hb s [.ref a, .ref c] I.kIn (by simpa using hl)
    simpa using this) r2 hs) fun z s' hq => ?_)
  match z, hq with
  | .error e, hq => exact passAt (W := fun _ _ _ _ => False) takes0 σ pins H s e s' I hq
  | .ok (.ret w), hq =>
    obtain ⟨z, H', I', rz, ez, S', g, r'⟩ := I.after hq
    subst ez
    cases rz
    exact ⟨rfl, S', H', I', g, r'⟩
  | .ok .next, hq => exact False.elim hq
  | .ok .brk, hq => exact False.elim hq
  | .ok .cont, hq => exact False.elim hq
/-- inside a list: the same object is equal to itself -/
theorem RcJ.eqJ {n : Nat} {dx dy : D} {b : Bool} (h : RcJ K X n dx dy b) (hr : ∀ (S : Hp) (μ : Mem) (H : Hp) x y, R3 K S μ H → Rep K S dx x → Rep K S dy y → ∃ a c, x = .ref a ∧ y = .ref c ∧ (a = c → b = true)) : EqJ K X n dx dy b := by
  intro A pins s σ S μ H x y u v sb gd I r hx hy rx ry
  obtain ⟨a, c, rfl, rfl, hab⟩ := hr S μ H x y r hx hy
  cases rx
  cases ry
  by_cases e : a = c
  · have eb := hab e
    subst e eb
    exact SeqAt.EqAt.same (A := A) (s := s) (.ref a) X.prog X.w X.xe _ ⟨rfl, S, H, I, Grow.refl, r⟩
  · refine GQ.eqBool_refG e (wpAny_mono (h A pins s σ S μ H (.ref a) (.ref c) _ _ sb gd I r hx hy rfl rfl) (fun r s' q => ?_) fun _ _ x => x)
    obtain ⟨hr', q⟩ := q
    exact ⟨b, hr', rfl, q⟩
/-- an object of the class C, and another one: what its == tells -/
structure OwnB (C : Str) (dsp : DSp) (x y : D) (b : Bool) : Prop where
  ex : ∃ fs gs, x = .obj C fs ∧ y = .obj C gs ∧ (∀ z ∈ fs, flatD z.2 = true) ∧ (∀ z ∈ gs, flatD z.2 = true) ∧ (fs = gs → b = true)
  sp : ∀ (μ : Mem) (Q : QM) (E : DX), Q (.bl b) μ → dsp [x, y] μ Q E
theorem OwnB.rcJ {k : Nat} {C : Str} {ps : List Str} {dsp : DSp} {x y : D} {b : Bool} (h : OwnB C dsp x y b) (M : CalM X.prog X.w K X.mg X.base k C "__eq__" ps [] dsp) (hk : X.K = K := by rfl) : RcJ K X k x y b := by
  obtain ⟨⟨fs, gs, rfl, rfl, _⟩, sp⟩ := h
  exact rcJ_own M sp hk
theorem OwnB.eqJ {k : Nat} {C : Str} {ps : List Str} {dsp : DSp} {x y : D} {b : Bool} (h : OwnB C dsp x y b) (M : CalM X.prog X.w K X.mg X.base k C "__eq__" ps [] dsp) (hk : X.K = K := by rfl) : EqJ K X k x y b := by
  refine (h.rcJ M hk).eqJ fun S μ H u v r hu hv => ?_
  obtain ⟨⟨fs, gs, rfl, rfl, f1, f2, f3⟩, _⟩ := h
  obtain ⟨a, ax, us, rfl, h1, h2⟩ := hu
  obtain ⟨c, cx, ws, rfl, h3, h4⟩ := hv
  refine ⟨a, c, rfl, rfl, fun e => f3 ?_⟩
  subst e
  rw [h1] at h3
  cases h3
  exact repF_flat h2 h4 f1 f2
/-- item by item -/
inductive OwnBs (C : Str) (dsp : DSp) : List D → List D → Bool → Prop
  | nn : OwnBs C dsp [] [] true
  | nc {y : D} {ys : List D} : OwnBs C dsp [] (y :: ys) false
  | cn {x : D} {xs : List D} : OwnBs C dsp (x :: xs) [] false
  | t {x y : D} {xs ys : List D} {b : Bool} : OwnB C dsp x y true → OwnBs C dsp xs ys b → OwnBs C dsp (x :: xs) (y :: ys) b
  | f {x y : D} {xs ys : List D} : OwnB C dsp x y false → OwnBs C dsp (x :: xs) (y :: ys) false
theorem OwnBs.fin {C : Str} {dsp : DSp} {xs ys : List D} {b : Bool} (h : OwnBs C dsp xs ys b) (e : xs = [] ∨ ys = []) : b = (xs.length == ys.length) := by
  cases h with
  | nn => rfl
  | nc => rfl
  | cn => rfl
  | t _ _ => rcases e with e | e <;> cases e
  | f _ => rcases e with e | e <;> cases e
theorem OwnBs.len {C : Str} {dsp : DSp} {xs ys : List D} {b : Bool} (h : OwnBs C dsp xs ys b) (e : xs.length ≠ ys.length) : b = false := by
  induction h with
  | nn => exact absurd rfl e
  | nc => rfl
  | cn => rfl
  | t _ _ ih => exact ih fun z => e (by rw [List.length_cons, List.length_cons, z])
  | f _ => rfl
/-- the state between the items -/
def Good (K : PySem.W.Frag) (X : Cx) (pins : List (Addr × Obj)) (σ : L2.St) (S : Hp) (μ : Mem) (H : Hp) (s : Shared) : Prop := ∃ S' H', Inv X pins σ H' s ∧ Grow S μ H S' μ H' ∧ R3 K S' μ H'
theorem own_turn {k : Nat} {C : Str} {ps : List Str} {dsp : DSp} {b : Bool} (M : CalM X.prog X.w K X.mg X.base k C "__eq__" ps [] dsp) (hk : X.K = K) {A : Around} (sb : Sub X (k + 1) A) (gd : A.guards = some []) {pins : List (Addr × Obj)} {σ : L2.St} {S : Hp} {μ : Mem} {H : Hp} {xs ys : List D} {vs ws : List V} {its its2 : List Value}
    (h1 : RepL K S xs vs) (h2 : RepL K S ys ws) (r : Vals vs its) (r2 : Vals ws its2) (i : Nat) (hi : i < its.toArray.size) (hj : i < its2.toArray.size) (s' : Shared) (g : Good K X pins σ S μ H s') (o : OwnBs C dsp (xs.drop i) (ys.drop i) b) :
    wpAny (model X.prog X.w) A.in1 (eqBool its.toArray[i] its2.toArray[i]) (fun r s2 => (r = true ∧ Good K X pins σ S μ H s2 ∧ OwnBs C dsp (xs.drop (i + 1)) (ys.drop (i + 1)) b) ∨ (r = false ∧ Good K X pins σ S μ H s2 ∧ b = false)) X.xe s' := by
  obtain ⟨S1, H1, I1, g1, r3⟩ := g
  have hi : i < its.length := by simpa using hi
  have hj : i < its2.length := by simpa using hj
  have k1 : i < vs.length := by rw [r.length]; exact hi
  have k2 : i < ws.length := by rw [r2.length]; exact hj
  have l1 : i < xs.length := by rw [← RepL.length h1]; exact k1
  have l2 : i < ys.length := by rw [← RepL.length h2]; exact k2
  obtain ⟨x, hx, hx2⟩ := RepL.get h1 (List.getElem?_eq_getElem l1)
  obtain ⟨y, hy, hy2⟩ := RepL.get h2 (List.getElem?_eq_getElem l2)
  obtain ⟨u, hu, ru⟩ := r.get hx
  obtain ⟨v, hv, rv⟩ := r2.get hy
  rw [List.getElem?_eq_getElem hi] at hu
  rw [List.getElem?_eq_getElem hj] at hv
  have eu : its.toArray[i] = u := by simpa using Option.some.inj hu
  have ev : its2.toArray[i] = v := by simpa using Option.some.inj hv
  rw [eu, ev]
  rw [List.drop_eq_getElem_cons l1, List.drop_eq_getElem_cons l2] at o
  have hx3 := Rep.mono g1.ex _ _ hx2
  have hy3 := Rep.mono g1.ex _ _ hy2
  cases o with
  | t ob os =>
    refine wpAny_mono (ob.eqJ M hk A.in1 pins s' σ S1 μ H1 _ _ _ _ sb.in1 gd I1 r3 hx3 hy3 ru rv) (fun z s2 q => ?_) fun _ _ x => x
    obtain ⟨rfl, S2, H2, I2, g2, r4⟩ := q
    exact .inl ⟨rfl, ⟨S2, H2, I2, g1.trans g2, r4⟩, os⟩
  | f ob =>
    refine wpAny_mono (ob.eqJ M hk A.in1 pins s' σ S1 μ H1 _ _ _ _ sb.in1 gd I1 r3 hx3 hy3 ru rv) (fun z s2 q => ?_) fun _ _ x => x
    obtain ⟨rfl, S2, H2, I2, g2, r4⟩ := q
    exact .inr ⟨rfl, ⟨S2, H2, I2, g1.trans g2, r4⟩, rfl⟩
theorem rcJ_lst {k : Nat} {C : Str} {ps : List Str} {dsp : DSp} {xs ys : List D} {b : Bool} (M : CalM X.prog X.w K X.mg X.base k C "__eq__" ps [] dsp) (o : OwnBs C dsp xs ys b) (hk : X.K = K := by rfl) : RcJ K X (k + 1) (.lst xs) (.lst ys) b := by
  subst hk
  intro A pins s σ S μ H x y u v sb gd I r hx hy rx ry
  obtain ⟨a, vs, rfl, h1, h2⟩ := hx
  obtain ⟨c, ws, rfl, h3, h4⟩ := hy
  cases rx
  cases ry
  have ha : ∀ {S' : Hp} {μ' : Mem} {H' : Hp}, Ex S S' → R3 X.K S' μ' H' → H' a = some (.lst vs) := fun e r' => exr_lst r'.ex (e _ _ h1)
  have hc : ∀ {S' : Hp} {μ' : Mem} {H' : Hp}, Ex S S' → R3 X.K S' μ' H' → H' c = some (.lst ws) := fun e r' => exr_lst r'.ex (e _ _ h3)
  obtain ⟨z, its, n1, rv, e1⟩ := I.hok a _ (ha (Ex.refl S) r)
  obtain ⟨z2, its2, n2, rv2, e2⟩ := I.hok c _ (hc (Ex.refl S) r)
  by_cases hl : xs.length = ys.length
  · refine wpAny_richCompare_same_room (op := .Eq) ⟨_, e1, rfl⟩ ⟨_, e2, rfl⟩ F.slot_list_eq (GQ.call_here F.slot_list_eq ⟨_, e1, rfl⟩ F.entry_list_eq (F.args_list_eq_2 _ _) ?_) sb.room.units0
    refine list_eqB (A := A) (R := wants (fun v s' => v ≠ .notImplemented ∧ v = .bool b ∧ Good X.K X pins σ S μ H s') X.xe) a c xs.length (fun i s' => Good X.K X pins σ S μ H s' ∧ OwnBs C dsp (xs.drop i) (ys.drop i) b) (fun s' => Good X.K X pins σ S μ H s' ∧ b = false) ⟨fun i s' g => ?_, fun s' g => ?_⟩ (fun s' g => ?_) (fun s' g => ?_) ⟨⟨S, H, I, Grow.refl, r⟩, o⟩
    · obtain ⟨g, o⟩ := g
      obtain ⟨S1, H1, I1, g1, r1⟩ := id g
      obtain ⟨z, its, n1, rv, e1⟩ := I1.hok a _ (ha g1.ex r1)
      obtain ⟨z2, its2, n2, rv2, e2⟩ := I1.hok c _ (hc g1.ex r1)
      refine ⟨its.toArray, its2.toArray, n1, n2, e1, e2, by rw [List.size_toArray, ← rv.length, RepL.length h2], by rw [List.size_toArray, ← rv2.length, RepL.length h4, hl], fun h5 h6 => ?_⟩
      refine wpAny_mono (own_turn M rfl sb gd h2 h4 rv rv2 i h5 h6 s' g o) (fun q s2 w => ?_) fun _ _ x => x
      exact w
    · obtain ⟨g, rfl⟩ := g
      obtain ⟨S1, H1, I1, g1, r1⟩ := id g
      obtain ⟨z, its, n1, rv, e1⟩ := I1.hok a _ (ha g1.ex r1)
      obtain ⟨z2, its2, n2, rv2, e2⟩ := I1.hok c _ (hc g1.ex r1)
      exact ⟨its.toArray, its2.toArray, n1, n2, e1, e2, by rw [List.size_toArray, ← rv.length, RepL.length h2], by rw [List.size_toArray, ← rv2.length, RepL.length h4, hl]⟩
    · obtain ⟨g, o⟩ := g
      rw [List.drop_length] at o
      have eb := o.fin (.inl rfl)
      rw [show (ys.drop xs.length).length = 0 by rw [List.length_drop]; omega] at eb
      have eb : b = true := eb
      subst eb
      exact ⟨(fun x => nomatch x), rfl, g⟩
    · obtain ⟨g, rfl⟩ := g
      exact ⟨(fun x => nomatch x), rfl, g⟩
  · have eb := o.len hl
    subst eb
    refine wpAny_richCompare_same_room (op := .Eq) ⟨_, e1, rfl⟩ ⟨_, e2, rfl⟩ F.slot_list_eq (GQ.call_here F.slot_list_eq ⟨_, e1, rfl⟩ F.entry_list_eq (F.args_list_eq_2 _ _) ?_) sb.room.units0
    exact list_eqNo a c its.toArray its2.toArray n1 n2 (by rw [List.size_toArray, List.size_toArray, ← rv.length, ← rv2.length, RepL.length h2, RepL.length h4]; exact hl) e1 e2 ⟨(fun x => nomatch x), rfl, S, H, I, Grow.refl, r⟩
theorem rcJ_tup {k : Nat} {C : Str} {ps : List Str} {dsp : DSp} {xs ys : List D} {b : Bool} (M : CalM X.prog X.w K X.mg X.base k C "__eq__" ps [] dsp) (o : OwnBs C dsp xs ys b) (hk : X.K = K := by rfl) : RcJ K X (k + 1) (.tup xs) (.tup ys) b := by
  subst hk
  intro A pins s σ S μ H x y u v sb gd I r hx hy rx ry
  obtain ⟨a, vs, rfl, h1, h2⟩ := hx
  obtain ⟨c, ws, rfl, h3, h4⟩ := hy
  cases rx
  cases ry
  obtain ⟨its, rv, e1, z1⟩ := I.tuple (exr_t r.ex (SqT.of h1))
  obtain ⟨its2, rv2, e2, z2⟩ := I.tuple (exr_t r.ex (SqT.of h3))
  obtain ⟨⟨cls, dd, data, sl⟩, ho, hc, n, hd⟩ := id e1
  obtain ⟨⟨cls2, dd2, data2, sl2⟩, ho2, hc2, n2, hd2⟩ := id e2
  simp only at hc hd hc2 hd2
  subst hc hd hc2 hd2
  have l1 : its.toArray.size = xs.length := by rw [List.size_toArray, ← rv.length, RepL.length h2]
  have l2 : its2.toArray.size = ys.length := by rw [List.size_toArray, ← rv2.length, RepL.length h4]
  refine wpAny_richCompare_same_room (op := .Eq) ⟨_, ho, rfl⟩ ⟨_, ho2, rfl⟩ F.slot_tuple_eq (GQ.call_here F.slot_tuple_eq ⟨_, ho, rfl⟩ F.entry_tuple_eq (F.args_tuple_eq_2 _ _) ?_) sb.room.units0
  refine tup_eqB (A := A) (R := wants (fun v s' => v ≠ .notImplemented ∧ v = .bool b ∧ Good X.K X pins σ S μ H s') X.xe) a c its.toArray its2.toArray n n2 dd dd2 sl sl2 (fun i s' => Good X.K X pins σ S μ H s' ∧ OwnBs C dsp (xs.drop i) (ys.drop i) b) (fun s' => Good X.K X pins σ S μ H s' ∧ b = false) (fun i h5 h6 s' g => ?_) (fun s' g => ?_) (fun s' g => ?_) ho ho2 ⟨⟨S, H, I, Grow.refl, r⟩, o⟩
  · obtain ⟨g, o⟩ := g
    exact own_turn M rfl sb gd h2 h4 rv rv2 i h5 h6 s' g o
  · obtain ⟨g, o⟩ := g
    have eb := o.fin (by
      rw [l1, l2]
      rcases Nat.le_total xs.length ys.length with z | z
      · exact .inl (List.drop_eq_nil_of_le (by omega))
      · exact .inr (List.drop_eq_nil_of_le (by omega)))
    have eb2 : b = (its.toArray.size == its2.toArray.size) := by
      rw [eb, l1, l2, List.length_drop, List.length_drop]
      rw [Bool.eq_iff_iff]
      simp only [beq_iff_eq]
      omega
    refine ⟨(fun x => nomatch x), by rw [eb2], g⟩
  · obtain ⟨g, rfl⟩ := g
    exact ⟨(fun x => nomatch x), rfl, g⟩
/-! ### the rules -/
/-- x == y: objects, lists, tuples of them -/
def OwnE (C : Str) (dsp : DSp) (x y : D) (b : Bool) : Prop := OwnB C dsp x y b ∨ (∃ xs ys, x = .lst xs ∧ y = .lst ys ∧ OwnBs C dsp xs ys b) ∨ ∃ xs ys, x = .tup xs ∧ y = .tup ys ∧ OwnBs C dsp xs ys b
def rdEqO (C : Str) (dsp : DSp) : DR := fun x y μ Q => ∃ b, OwnE C dsp x y b ∧ Q (.bl b) μ
def rEqJ (K : PySem.W.Frag) (X : Cx) (n : Nat) : R2 := fun x y H Q => ∃ S μ dx dy b, R3 K S μ H ∧ Rep K S dx x ∧ Rep K S dy y ∧ RcJ K X n dx dy b ∧ ∀ S' H', Grow S μ H S' μ H' → R3 K S' μ H' → Q (.bl b) H'
theorem op_eqJ {n : Nat} (hr : Room n X.A) (gd : X.A.guards = some []) : OpR X (compareOp .Eq) (rEqJ K X n) := by
  intro pins s σ H x y v u Q I rx ry h
  obtain ⟨S, μ, dx, dy, b, r, hx, hy, hj, q⟩ := h
  show wpAny (model X.prog X.w) X.A (richCompare .Eq v u) (EP X pins σ Q) X.xe s
  refine wpAny_mono (hj X.A pins s σ S μ H x y v u ⟨hr, rfl⟩ gd I r hx hy rx ry) (fun z s' w => ?_) fun _ _ x => x
  obtain ⟨rfl, S', H', I', g, r'⟩ := w
  exact ⟨.bl b, H', I', rfl, q S' H' g r'⟩
theorem OwnE.rcJ {k : Nat} {C : Str} {ps : List Str} {dsp : DSp} {x y : D} {b : Bool} (h : OwnE C dsp x y b) (M : CalM X.prog X.w K X.mg X.base k C "__eq__" ps [] dsp) (hk : X.K = K := by rfl) : RcJ K X (k + 1) x y b := by
  rcases h with h | ⟨xs, ys, rfl, rfl, h⟩ | ⟨xs, ys, rfl, rfl, h⟩
  · exact (h.rcJ M hk).mono (Nat.le_succ _)
  · exact rcJ_lst M h hk
  · exact rcJ_tup M h hk
theorem o_eqO {k : Nat} {C : Str} {ps : List Str} {dsp : DSp} (M : CalM X.prog X.w K X.mg X.base k C "__eq__" ps [] dsp) (hr : Room (k + 1) X.A) (gd : X.A.guards = some []) (hk : X.K = K := by rfl) : PDOp K X (compareOp .Eq) (rEqJ K X (k + 1)) (rdEqO C dsp) :=
  ⟨op_eqJ hr gd, fun S μ H x y dx dy Q QD r hx hy k2 q => by
    obtain ⟨b, ob, q⟩ := q
    exact ⟨S, μ, dx, dy, b, r, hx, hy, ob.rcJ M hk, fun S' H' g r' => k2 S' μ H' _ (.bl b) g r' rfl q⟩⟩
/-- x in l -/
inductive OwnI (C : Str) (dsp : DSp) (x : D) : List D → Bool → Prop
  | n : OwnI C dsp x [] false
  | t {y : D} {ys : List D} : OwnB C dsp y x true → OwnI C dsp x (y :: ys) true
  | f {y : D} {ys : List D} {b : Bool} : OwnB C dsp y x false → OwnI C dsp x ys b → OwnI C dsp x (y :: ys) b
def InJ (K : PySem.W.Frag) (X : Cx) (n : Nat) (dx dy : D) (b : Bool) : Prop := ∀ (A : Around) (pins : List (Addr × Obj)) (s : Shared) (σ : L2.St) (S : Hp) (μ : Mem) (H : Hp) (x y : V) (u v : Value), Sub X n A → A.guards = some [] → Inv X pins σ H s → R3 K S μ H → Rep K S dx x → Rep K S dy y → RelV x u → RelV y v →
  wpAny (model X.prog X.w) A (compareOp .In u v) (fun r s' => r = .bool b ∧ ∃ S' H', Inv X pins σ H' s' ∧ Grow S μ H S' μ H' ∧ R3 K S' μ H') X.xe s
theorem inJ_lst {k : Nat} {C : Str} {ps : List Str} {dsp : DSp} {x : D} {ys : List D} {b : Bool} (M : CalM X.prog X.w K X.mg X.base k C "__eq__" ps [] dsp) (o : OwnI C dsp x ys b) (hk : X.K = K := by rfl) : InJ K X (k + 1) x (.lst ys) b := by
  subst hk
  intro A pins s σ S μ H vx vy u v sb gd I r hx hy rx ry
  obtain ⟨c, ws, rfl, h3, h4⟩ := hy
  cases ry
  have hc : ∀ {S' : Hp} {μ' : Mem} {H' : Hp}, Ex S S' → R3 X.K S' μ' H' → H' c = some (.lst ws) := fun e r' => exr_lst r'.ex (e _ _ h3)
  obtain ⟨z2, its2, n2, rv2, e2⟩ := I.hok c _ (hc (Ex.refl S) r)
  show wpAny (model X.prog X.w) A (do return Value.bool (← contains (.ref c) u)) _ _ s
  refine wpAny_bind (wpAny_contains_slot ⟨_, e2, rfl⟩ F.slot_list_contains (wpAny_mono (GQ.call_here (Q := fun v s' => v = .bool b ∧ Good X.K X pins σ S μ H s') F.slot_list_contains ⟨_, e2, rfl⟩ F.entry_list_contains (F.args_list_contains_2 _ _) ?_) (fun v s' hv => ?_) fun _ _ e => e))
  · refine list_containsB (A := A) (R := wants (fun v s' => v = .bool b ∧ Good X.K X pins σ S μ H s') X.xe) c u ys.length (fun i s' => Good X.K X pins σ S μ H s' ∧ OwnI C dsp x (ys.drop i) b) (fun s' => Good X.K X pins σ S μ H s' ∧ b = true) (fun i s' g => ?_) (fun s' g => ?_) (fun s' g => ?_) ⟨⟨S, H, I, Grow.refl, r⟩, o⟩
    · obtain ⟨g, o⟩ := g
      obtain ⟨S1, H1, I1, g1, r1⟩ := id g
      obtain ⟨z2, its2, n2, rv2, e2⟩ := I1.hok c _ (hc g1.ex r1)
      refine ⟨its2.toArray, n2, e2, by rw [List.size_toArray, ← rv2.length, RepL.length h4], fun h6 => ?_⟩
      have hj : i < its2.length := by simpa using h6
      have k2 : i < ws.length := by rw [rv2.length]; exact hj
      have l2 : i < ys.length := by rw [← RepL.length h4]; exact k2
      obtain ⟨y, hy, hy2⟩ := RepL.get h4 (List.getElem?_eq_getElem l2)
      obtain ⟨v, hv, rv⟩ := rv2.get hy
      rw [List.getElem?_eq_getElem hj] at hv
      have ev : its2.toArray[i] = v := by simpa using Option.some.inj hv
      rw [ev]
      rw [List.drop_eq_getElem_cons l2] at o
      have hx3 := Rep.mono g1.ex _ _ hx
      have hy3 := Rep.mono g1.ex _ _ hy2
      cases o with
      | t ob =>
        refine wpAny_mono (ob.eqJ M rfl A.in1 pins s' σ S1 μ H1 _ _ _ _ sb.in1 gd I1 r1 hy3 hx3 rv rx) (fun z s2 q => ?_) fun _ _ x => x
        obtain ⟨rfl, S2, H2, I2, g2, r4⟩ := q
        exact .inr ⟨rfl, ⟨S2, H2, I2, g1.trans g2, r4⟩, rfl⟩
      | f ob os =>
        refine wpAny_mono (ob.eqJ M rfl A.in1 pins s' σ S1 μ H1 _ _ _ _ sb.in1 gd I1 r1 hy3 hx3 rv rx) (fun z s2 q => ?_) fun _ _ x => x
        obtain ⟨rfl, S2, H2, I2, g2, r4⟩ := q
        exact .inl ⟨rfl, ⟨S2, H2, I2, g1.trans g2, r4⟩, os⟩
    · obtain ⟨g, o⟩ := g
      rw [List.drop_length] at o
      cases o
      exact ⟨rfl, g⟩
    · obtain ⟨g, rfl⟩ := g
      exact ⟨rfl, g⟩
  · obtain ⟨rfl, g⟩ := hv
    exact wpAny_truthy_bool (wpAny_pure ⟨rfl, g⟩)
def rInJ (K : PySem.W.Frag) (X : Cx) (n : Nat) : R2 := fun x y H Q => ∃ S μ dx dy b, R3 K S μ H ∧ Rep K S dx x ∧ Rep K S dy y ∧ InJ K X n dx dy b ∧ ∀ S' H', Grow S μ H S' μ H' → R3 K S' μ H' → Q (.bl b) H'
theorem op_inJ {n : Nat} (hr : Room n X.A) (gd : X.A.guards = some []) : OpR X (compareOp .In) (rInJ K X n) := by
  intro pins s σ H x y v u Q I rx ry h
  obtain ⟨S, μ, dx, dy, b, r, hx, hy, hj, q⟩ := h
  refine wpAny_mono (hj X.A pins s σ S μ H x y v u ⟨hr, rfl⟩ gd I r hx hy rx ry) (fun z s' w => ?_) fun _ _ x => x
  obtain ⟨rfl, S', H', I', g, r'⟩ := w
  exact ⟨.bl b, H', I', rfl, q S' H' g r'⟩
def rdInO (C : Str) (dsp : DSp) : DR := fun x y μ Q => ∃ ys b, y = .lst ys ∧ OwnI C dsp x ys b ∧ Q (.bl b) μ
theorem o_inO {k : Nat} {C : Str} {ps : List Str} {dsp : DSp} (M : CalM X.prog X.w K X.mg X.base k C "__eq__" ps [] dsp) (hr : Room (k + 1) X.A) (gd : X.A.guards = some []) (hk : X.K = K := by rfl) : PDOp K X (compareOp .In) (rInJ K X (k + 1)) (rdInO C dsp) :=
  ⟨op_inJ hr gd, fun S μ H x y dx dy Q QD r hx hy k2 q => by
    obtain ⟨ys, b, rfl, ob, q⟩ := q
    exact ⟨S, μ, dx, .lst ys, b, r, hx, hy, inJ_lst M ob hk, fun S' H' g r' => k2 S' μ H' _ (.bl b) g r' rfl q⟩⟩
end Dl

namespace PySem
open Sem (wp)
theorem bool_indexD : typeLookup (.type "bool") "__index__" = pure (some (.builtin "int.__index__")) := by rw [typeLookup_type, builtinLookup_eq_fast]; kernel_rfl
section
variable {M : Model} {prog : Program} {w : World} {A : Around} {E : Value → Shared → Prop} {s : Shared}
theorem listSubscript_boolD {b : Bool} {Q : Option Int → Shared → Prop} (h : Q (some (if b then 1 else 0)) s) : wpAny M A (Builtin.List.listSubscript? (.bool b)) Q E s := by
  unfold Builtin.List.listSubscript?
  refine wpAny_bind (wpAny_specialOf (T := "bool") (typeIs_bool s b) bool_indexD ?_)
  show wpAny M A (asIndex (.bool b) >>= _) Q E s
  refine wpAny_bind (wpAny_of_eq (a := (if b then 1 else 0)) (by cases b <;> rfl) ?_)
  show wpAny M A (if (!Builtin.List.listFitsIndex (if b then 1 else 0)) = true then _ else _) Q E s
  rw [if_neg (by cases b <;> decide)]
  exact wpAny_pure h
theorem getItem_list_boolD {l : Addr} {items : Array Value} {b : Bool} {x : Value} {Q : Value → Shared → Prop} (hl : s.heap.IsList l items) (hx : items[b.toNat]? = some x) (h : Q x s) : wpAny (model prog w) A (getItem (.ref l) (.bool b)) Q E s := by
  obtain ⟨o, ho, hc, ne, hd⟩ := id hl
  unfold getItem
  try with_reducible refine wpAny_holding ?_
  first | refine wpAny_bind (wpAny_pure ?_) | skip
  refine wpAny_bind (wpAny_sequenceKey hl.typeIs (by decide) ?_)
  refine wpAny_bind (wpAny_callSpecial?_slot (name := Str.ofString "__getitem__") hl.typeIs slot_list_getitem
    (wpAny_call_entry slot_list_getitem hl.typeIs entry_list_getitem ?_ (args_list_getitem _ _)))
  show wpAny _ _ (Builtin.List.listSubscript? (.bool b) >>= _) _ _ s
  refine wpAny_bind (listSubscript_boolD ?_)
  have e : (if b then (1 : Int) else 0) = (b.toNat : Int) := by cases b <;> rfl
  rw [e]
  show wpAny _ _ ((seqItemAt l b.toNat >>= fun r => pure (r.map (b.toNat, ·))) >>= _) _ _ s
  refine wpAny_bind (wpAny_bind (wpAny_seqItemAt ho hd (wpAny_pure ?_)))
  rw [hx]
  first
    | exact wpAny_bind (wpAny_pure (wpAny_pure ⟨x, rfl, wpAny_pure h⟩))
    | exact wpAny_pure ⟨x, rfl, wpAny_pure h⟩
end
end PySem
namespace Dl
open PySem PySem.Spec PyProof.Rows L2
variable {X : Cx} {K : PySem.W.Frag} {Z : Bs}
/-! ### l[b], b a truth -/
def rIxB (K : PySem.W.Frag) : R2 := fun x y H Q => ∃ p xs b v, x = .ref p ∧ y = .bl b ∧ SqL K H p xs ∧ xs[b.toNat]? = some v ∧ Q v H
theorem ix_bool : IxR X (rIxB X.K) := by
  intro value slice pins s σ H x y v u Q I rx ry h hs
  obtain ⟨p, xs, b, z, rfl, rfl, hq, he, q⟩ := h
  cases rx
  cases ry
  obtain ⟨its, r, pl, hz⟩ := I.list hq
  obtain ⟨w, ew, rw'⟩ := r.get he
  have fin : EP X pins σ Q w s := ⟨z, H, I, rw', q⟩
  exact subscriptTail_builtinR (x := w) pl.isList.typeIs slot_list_getitem.lookup (getItem_list_boolD (Q := fun r s' => r = w ∧ EP X pins σ Q r s') pl.isList (by simpa using ew) ⟨rfl, fin⟩) hs
def rdIxB : DR := fun x y μ Q => ∃ l b d, lstOf μ x = some l ∧ y = .bl b ∧ l[b.toNat]? = some d ∧ Q d μ
theorem d_ixB {a b : Expr} {pos : Pos} {ta tb : TE} {da db : DE} (ha : PD K Z X a ta da) (hb : PD K Z X b tb db) (hs : PlainIx b := by exact fun _ _ => rfl) (hk : X.K = K := by rfl) : PD K Z X (.Subscript a b pos) (tOp (rIxB K) ta tb) (dOp rdIxB da db) := by
  subst hk
  exact ⟨pe_ix ix_bool ha.p hb.p hs, simOp (fun S μ H x y dx dy Q QD r hx hy k q => by
    obtain ⟨l, b, d, e, rfl, ei, q⟩ := q
    obtain ⟨a, vs, rfl, hs, h2⟩ := lst_is r hx e
    have hy : y = .bl b := hy
    subst hy
    obtain ⟨v, e2, hv⟩ := RepL.get h2 ei
    exact ⟨a, vs, b, v, rfl, rfl, hs, e2, k S μ H v d Grow.refl r hv q⟩) ha.s hb.s⟩
section
variable {μ : Mem} {QM' : QM}
/-- [x, y][b] -/
instance st_ixB2 {x y : D} {b : Bool} : Step (rdIxB (.lst [x, y]) (.bl b) μ QM') ((b = false → QM' x μ) ∧ (b = true → QM' y μ)) := ⟨fun h => ⟨[x, y], b, if b then y else x, rfl, rfl, by cases b <;> rfl, by cases b with | false => exact h.1 rfl | true => exact h.2 rfl⟩⟩
end
end Dl

local macro_rules | `(tactic| walk_at "st") => `(tactic| first | (refine Dl.Step.by ?_) | (with_reducible refine Dl.i_gtup rfl ?_) | (with_reducible refine Dl.i_glst rfl ?_) | (refine Dl.kw_c rfl rfl rfl ?_) | (with_reducible refine Dl.i_lenR (by assumption) ?_) | (with_reducible refine Dl.i_ixR (by assumption) rfl ?_) | (with_reducible refine Dl.i_listR (by assumption) ?_) | (with_reducible refine Dl.i_slR (by assumption) ?_) | (with_reducible refine Dl.is_l (by assumption) ?_) | (with_reducible refine Dl.i_excell (by assumption) ?_) | (with_reducible refine Dl.wk_r (by assumption) ?_) | ((with_reducible refine Dl.i_mod ?hc ?_); (case hc => omega)) | ((with_reducible refine Dl.i_div ?hc ?_); (case hc => exact Dl.cd2 (by omega) (by omega))) | ((with_reducible refine Dl.i_mulI ?hc ?_); (case hc => exact Dl.cm2 (by omega) (by omega) (by omega) (by omega))) | ((with_reducible refine Dl.i_pow ?hc ?_); (case hc => exact Dl.cp2 (by omega) (by omega) (by omega) (by omega))) | ((with_reducible refine Dl.i_exr1 ?hc ?hd ?_); (case hc => omega); (case hd => omega)) | refine Dl.i_sz rfl ?_ | refine Dl.i_ss rfl ?_)
local macro_rules | `(tactic| walk_at "wp") => `(tactic| simp only [Dl.wipeD, List.set_cons_zero, List.set_cons_succ])
local macro_rules | `(tactic| walk_at "le") => `(tactic| (first | exact ⟨rfl, rfl⟩ | simp only [Dl.Le, and_self, and_true, true_and]))
local macro_rules | `(tactic| walk_at "go") => `(tactic| repeat walk_at "st")

local macro_rules | `(tactic| walk_at "om") => `(tactic| first | omega | ((repeat (first | rw [Dl.slen_app] | rw [Dl.slen_one] | rw [Dl.slen_to _ _ (by omega)] | rw [Dl.slen_from _ _ (by omega)])); omega))
local macro_rules | `(tactic| walk_at "a1") => `(tactic| first | walk_at "st" | (with_reducible refine Dl.kw_c rfl rfl rfl ?_) | (with_reducible refine Dl.ite_nd (fun _ => ?_) (fun _ => ?_)) | (with_reducible refine Dl.ite_d (fun _ => ?_) (fun _ => ?_)) | (with_reducible refine Dl.ite_nb (fun _ => ?_) (fun _ => ?_)) | (with_reducible refine Dl.ite_b (fun _ => ?_) (fun _ => ?_)) | (with_reducible intro _) | (with_reducible apply Exists.intro) | (with_reducible refine ⟨rfl, ?_⟩) | (with_reducible refine ⟨by walk_at "om", ?_⟩) | (with_reducible refine ⟨by assumption, ?_⟩) | (with_reducible refine ⟨fun _ => ?_, ?_⟩) | fail)
local macro_rules | `(tactic| walk_at "au") => `(tactic| repeat' walk_at "a1")

namespace Pf
open PySem PySem.Spec PyProof.Rows L2 Dl
open Evl (sz_of sz_lt)
structure Txt (K : PySem.W.Frag) (mg : Str → Option Value) : Prop where
  d__law_mixed : At K mg "_law_mixed" s__law_mixed []
  d__law_next : At K mg "_law_next" s__law_next []
  d__law_word : At K mg "_law_word" s__law_word []
  d__law_near : At K mg "_law_near" s__law_near []
  d__law_pair : At K mg "_law_pair" s__law_pair []
  d_is_name : At K mg "is_name" s_is_name []
  d_ask_name : At K mg "ask_name" s_ask_name []
  d_is_number : At K mg "is_number" s_is_number []
  d_ask_worth : At K mg "ask_worth" s_ask_worth []
  d_law : At K mg "law" s_law []
  d_Kind___eq__ : AtM K "Kind" "__eq__" "Kind.__eq__" s_Kind___eq__ []
  d_Kind_ask_weight : AtM K "Kind" "ask_weight" "Kind.ask_weight" s_Kind_ask_weight []
  d_Kind_counted : AtM K "Kind" "counted" "Kind.counted" s_Kind_counted []
  d_Kind___init__ : AtI K mg "Kind" "Kind.__init__" s_Kind___init__ []
  b_all : mg "all" = none
  b_bool : mg "bool" = none
  b_int : mg "int" = none
  b_isinstance : mg "isinstance" = none
  b_len : mg "len" = none
  b_list : mg "list" = none
  b_max : mg "max" = none
  b_min : mg "min" = none
  b_range : mg "range" = none
  b_repr : mg "repr" = none
  b_str : mg "str" = none
  g_MOST_WEIGHT : ∃ t, mg "MOST_WEIGHT" = some (.int 1000 t)
  g_TOP : ∃ t, mg "TOP" = some (.int 1000000 t)
  cl_Kind : Cls K (He.ga K "Kind")
  na_Kind_full : NoAttr K (He.ga K "Kind") "full"
  na_Kind_least : NoAttr K (He.ga K "Kind") "least"
  na_Kind_name : NoAttr K (He.ga K "Kind") "name"
  ec_NoName : Ec K mg "NoName"
  ec_NoWeight : Ec K mg "NoWeight"
  ec_NoWorth : Ec K mg "NoWorth"
  gc_Kind : mg "Kind" = some (.ref (He.ga K "Kind"))
  cs : Css K exs objs
abbrev o_Kind (a0 a1 a2 : D) : List (Str × D) := [("name", a0), ("full", a1), ("least", a2)]
theorem lk_Kind_name {a0 a1 a2 : D} : List.lookup ("name" : Str) (o_Kind a0 a1 a2) = some a0 := by kernel_rfl
instance of_Kind_name {a0 a1 a2 : D} {μ : Mem} {R : D → Prop} : Step (OfF "Kind" "name" (.obj "Kind" [("name", a0), ("full", a1), ("least", a2)]) μ R) (R a0) := ⟨fun h => off_obj lk_Kind_name h⟩
theorem pt_Kind_name {a0 : D} : putD "name" a0 [] = ([("name", a0)] : List (Str × D)) := by first | kernel_rfl | (simp [putD]; done)
theorem lk_Kind_full {a0 a1 a2 : D} : List.lookup ("full" : Str) (o_Kind a0 a1 a2) = some a1 := by kernel_rfl
instance of_Kind_full {a0 a1 a2 : D} {μ : Mem} {R : D → Prop} : Step (OfF "Kind" "full" (.obj "Kind" [("name", a0), ("full", a1), ("least", a2)]) μ R) (R a1) := ⟨fun h => off_obj lk_Kind_full h⟩
theorem pt_Kind_full {a0 a1 : D} : putD "full" a1 [("name", a0)] = ([("name", a0), ("full", a1)] : List (Str × D)) := by first | kernel_rfl | (simp [putD]; done)
theorem lk_Kind_least {a0 a1 a2 : D} : List.lookup ("least" : Str) (o_Kind a0 a1 a2) = some a2 := by kernel_rfl
instance of_Kind_least {a0 a1 a2 : D} {μ : Mem} {R : D → Prop} : Step (OfF "Kind" "least" (.obj "Kind" [("name", a0), ("full", a1), ("least", a2)]) μ R) (R a2) := ⟨fun h => off_obj lk_Kind_least h⟩
theorem pt_Kind_least {a0 a1 a2 : D} : putD "least" a2 [("name", a0), ("full", a1)] = ([("name", a0), ("full", a1), ("least", a2)] : List (Str × D)) := by first | kernel_rfl | (simp [putD]; done)
theorem nm_Kind___eq__ {a0 a1 a2 : D} : List.lookup ("__eq__" : Str) (o_Kind a0 a1 a2) = none := by kernel_rfl
instance on_Kind___eq__ {a0 a1 a2 : D} {μ : Mem} {R : Prop} : Step (OnM "Kind" "__eq__" (.obj "Kind" [("name", a0), ("full", a1), ("least", a2)]) μ R) R := ⟨fun h => onm_obj nm_Kind___eq__ h⟩
theorem nm_Kind_ask_weight {a0 a1 a2 : D} : List.lookup ("ask_weight" : Str) (o_Kind a0 a1 a2) = none := by kernel_rfl
instance on_Kind_ask_weight {a0 a1 a2 : D} {μ : Mem} {R : Prop} : Step (OnM "Kind" "ask_weight" (.obj "Kind" [("name", a0), ("full", a1), ("least", a2)]) μ R) R := ⟨fun h => onm_obj nm_Kind_ask_weight h⟩
theorem nm_Kind_counted {a0 a1 a2 : D} : List.lookup ("counted" : Str) (o_Kind a0 a1 a2) = none := by kernel_rfl
instance on_Kind_counted {a0 a1 a2 : D} {μ : Mem} {R : Prop} : Step (OnM "Kind" "counted" (.obj "Kind" [("name", a0), ("full", a1), ("least", a2)]) μ R) R := ⟨fun h => onm_obj nm_Kind_counted h⟩
/-! ### the draw -/
structure Scr (a : D) (ns : List Int) : Prop where
  is : a = .scr (ns.map .int) ∨ a = .lst (ns.map .int)
theorem Scr.seq {a : D} {ns : List Int} (h : Scr a ns) (μ : Mem) : seqOf μ a = some (ns.map .int) := by
  rcases h.is with rfl | rfl <;> rfl
theorem pds_ints : ∀ ns : List Int, pds (ns.map D.int) = some (ns.map PyData.int)
  | [] => rfl
  | n :: ns => by
    show (pd (.int n)).bind (fun x => (pds (ns.map D.int)).map (x :: ·)) = _
    rw [pds_ints ns]; rfl
theorem lay_ints : ∀ ns : List Int, PyData.canLayAll0 (ns.map PyData.int) = true
  | [] => by simp [PyData.canLayAll0]
  | n :: ns => by simp [PyData.canLayAll0, PyData.canLay0, lay_ints ns]
theorem dep_ints : ∀ ns : List Int, PyData.depthAll (ns.map PyData.int) ≤ 1
  | [] => by simp [PyData.depthAll]
  | n :: ns => by
    have := dep_ints ns
    simp [PyData.depthAll, PyData.depth]
    omega
theorem cps_app (a b : Str) : (a ++ b).cps.toList = a.cps.toList ++ b.cps.toList := TL.tl_append a b
theorem len_cps (a : Str) : a.length = a.cps.toList.length := by simp [Str.length]
theorem cps_cut (z : Str) (lo hi : Option Int) : ∀ c ∈ (cutS z lo hi).cps.toList, c ∈ z.cps.toList := fun c h => by
  unfold cutS at h
  simp only at h
  exact List.mem_of_mem_drop (List.mem_of_mem_take h)
theorem joinL_nil : ∀ l : List (List Nat), TL.joinL [] l = l.flatten
  | [] => rfl
  | [p] => by simp [TL.joinL]
  | p :: q :: r => by
    have := joinL_nil (q :: r)
    simp only [TL.joinL, List.nil_append, List.flatten_cons] at this ⊢
    rw [this]
theorem cps_join0 (ys : List Str) : (Txt.join "" ys).cps.toList = (ys.map TL.tl).flatten := by
  rw [TL.join_eq]
  show TL.tl (Str.join "" ys) = _
  rw [TL.tl_join, show TL.tl ("" : Str) = [] from by decide +kernel, joinL_nil]
/-- all signs of a text -/
def Al (P : Nat → Prop) (z : Str) : Prop := ∀ c ∈ z.cps.toList, P c
theorem Al.app {P : Nat → Prop} {a b : Str} (h1 : Al P a) (h2 : Al P b) : Al P (a ++ b) := fun c h => by
  rw [cps_app] at h
  rcases List.mem_append.mp h with h | h
  · exact h1 c h
  · exact h2 c h
theorem Al.cut {P : Nat → Prop} {z : Str} (h : Al P z) (lo hi : Option Int) : Al P (cutS z lo hi) := fun c hc => h c (cps_cut z lo hi c hc)
theorem Al.imp {P P' : Nat → Prop} {z : Str} (h : Al P z) (k : ∀ c, P c → P' c) : Al P' z := fun c hc => k c (h c hc)
theorem Al.one {P : Nat → Prop} {c : Nat} (h : P c) : Al P ⟨#[c]⟩ := fun d hd => by
  have e : d = c := by simpa using hd
  rw [e]; exact h
theorem Al.join0 {P : Nat → Prop} {ys : List Str} (h : ∀ y ∈ ys, Al P y) : Al P (Txt.join "" ys) := fun c hc => by
  rw [cps_join0] at hc
  obtain ⟨l, hl, hc⟩ := List.mem_flatten.mp hc
  obtain ⟨y, hy, rfl⟩ := List.mem_map.mp hl
  exact h y hy c hc
abbrev Cp (c : Nat) : Prop := c < 0x110000
theorem ok_of_al {z : Str} (h : Al Cp z) : PyData.strOk z = true := by
  unfold PyData.strOk
  rw [Array.all_eq_true_iff_forall_mem]
  intro c hc
  exact decide_eq_true (h c (by simpa using hc))
theorem pds_strs : ∀ ns : List Str, pds (ns.map D.str) = some (ns.map PyData.str)
  | [] => rfl
  | n :: ns => by
    show (pd (.str n)).bind (fun x => (pds (ns.map D.str)).map (x :: ·)) = _
    rw [pds_strs ns]; rfl
theorem lay_strs : ∀ ns : List Str, (∀ z ∈ ns, Al Cp z) → PyData.canLayAll0 (ns.map PyData.str) = true
  | [], _ => by simp [PyData.canLayAll0]
  | n :: ns, h => by simp [PyData.canLayAll0, PyData.canLay0, lay_strs ns (fun z hz => h z (List.mem_cons_of_mem _ hz)), ok_of_al (h n List.mem_cons_self)]
theorem dep_strs : ∀ ns : List Str, PyData.depthAll (ns.map PyData.str) ≤ 1
  | [] => by simp [PyData.depthAll]
  | n :: ns => by
    have := dep_strs ns
    simp [PyData.depthAll, PyData.depth]
    omega
theorem sh_strs {ns : List Str} (h : ∀ z ∈ ns, Al Cp z) : shD (.lst (ns.map .str)) = true := by
  have e : pd (.lst (ns.map .str)) = some (.list (ns.map PyData.str)) := by
    show (pds (ns.map D.str)).map PyData.list = _
    rw [pds_strs]; rfl
  unfold shD
  rw [e]
  show (PyData.canLay0 (.list (ns.map PyData.str)) && decide (PyData.depth (.list (ns.map PyData.str)) ≤ 64)) = true
  have := dep_strs ns
  simp [PyData.canLay0, lay_strs ns h, PyData.depth]
  omega
theorem eq0_strs {ns : List Str} : eqD (.lst (ns.map .str)) (.lst []) = decide (ns = []) := by
  have e : pd (.lst (ns.map .str)) = some (.list (ns.map PyData.str)) := by
    show (pds (ns.map D.str)).map PyData.list = _
    rw [pds_strs]; rfl
  unfold eqD
  rw [e]
  show PyData.eqv (.list (ns.map PyData.str)) (.list []) = _
  cases ns with
  | nil => simp [PyData.eqv, PyData.eqvAll]
  | cons n ns => simp [PyData.eqv, PyData.eqvAll]
abbrev abc : Str := "abcdefghijklmnopqrstuvwxyz"
def letter (c : Nat) : Bool := decide (c ∈ abc.cps.toList)
def isName (z : Str) : Bool := decide (1 ≤ z.length ∧ z.length ≤ 8) && z.cps.toList.all letter
theorem signs_get {z : Str} {i : Nat} {d : D} (h : (Dl.signs z)[i]? = some d) : ∃ c, z.cps.toList[i]? = some c ∧ d = .str ⟨#[c]⟩ := by
  unfold Dl.signs at h
  rw [List.getElem?_map] at h
  cases e : z.cps.toList[i]? with
  | none => rw [e] at h; cases h
  | some c => rw [e] at h; exact ⟨c, rfl, (Option.some.inj h).symm⟩
theorem take_succ_get {α : Type} {l : List α} {i : Nat} {c : α} (h : l[i]? = some c) : l.take (i + 1) = l.take i ++ [c] := by
  rw [List.take_add_one, h]; rfl
theorem letter_cp {c : Nat} (h : letter c = true) : Cp c := of_decide_eq_true (List.all_eq_true.mp (show abc.cps.toList.all (fun c => decide (c < 0x110000)) = true by decide +kernel) c (of_decide_eq_true h))
theorem isName_of {z : Str} (h1 : 1 ≤ z.length) (h2 : z.length ≤ 8) (h : Al (fun c => letter c = true) z) : isName z = true := by
  unfold isName
  rw [decide_eq_true ⟨h1, h2⟩, Bool.true_and]
  exact List.all_eq_true.mpr h
theorem name_len {z : Str} (h : isName z = true) : 1 ≤ z.length ∧ z.length ≤ 8 := by
  unfold isName at h
  exact of_decide_eq_true (Bool.and_eq_true_iff.mp h).1
theorem name_al {z : Str} (h : isName z = true) : Al (fun c => letter c = true) z := by
  unfold isName at h
  exact List.all_eq_true.mp (Bool.and_eq_true_iff.mp h).2
theorem name_cp {z : Str} (h : isName z = true) : Al Cp z := (name_al h).imp fun _ => letter_cp
/-- a whole number within bounds, no truth -/
def numOk (lo hi : Int) : D → Option Bool
  | .int i => some (decide (lo ≤ i ∧ i ≤ hi))
  | .bl _ => some false
  | _ => none
theorem numOk_true {lo hi : Int} {d : D} (h : numOk lo hi d = some true) : ∃ i, d = .int i ∧ lo ≤ i ∧ i ≤ hi := by
  cases d with
  | int i => exact ⟨i, rfl, of_decide_eq_true (Option.some.inj h)⟩
  | bl b => cases h
  | _ => cases h
theorem numOk_int {lo hi i : Int} (h1 : lo ≤ i) (h2 : i ≤ hi) : numOk lo hi (.int i) = some true := by
  show some (decide _) = _
  rw [decide_eq_true ⟨h1, h2⟩]
theorem letter_at {n c : Nat} (h : abc.cps.toList[n]? = some c) : letter c = true := decide_eq_true (List.mem_of_getElem? h)
theorem al_at {P : Nat → Prop} {z : Str} {n c : Nat} (h : Al P z) (e : z.cps.toList[n]? = some c) : P c := h c (List.mem_of_getElem? e)
theorem abc_len : (Str.ofString "abcdefghijklmnopqrstuvwxyz").length = 26 := by decide +kernel
theorem Al.nil {P : Nat → Prop} : Al P "" := fun c h => absurd h (by rw [show (Str.ofString "").cps.toList = [] from by decide +kernel]; exact List.not_mem_nil)
local macro_rules | `(tactic| walk_at "al") => `(tactic| first | assumption | exact name_al (by assumption) | exact Al.nil | (exact Al.one (letter_at (by assumption))) | (exact Al.one (al_at (name_al (by assumption)) (by assumption))) | (refine Al.app ?_ ?_ <;> walk_at "al") | (refine Al.cut ?_ _ _; walk_at "al"))
local macro_rules | `(tactic| walk_at "nm") => `(tactic| first | assumption | (refine isName_of ?_ ?_ ?_ <;> first | walk_at "om" | walk_at "al"))
theorem fil_ge (l : List Str) : ∀ fs : List Str, l.Nodup → l.length ≤ (l.filter fun x => !decide (x ∈ fs)).length + fs.length
  | [], _ => by
    rw [List.filter_eq_self.mpr (fun x _ => by simp)]
    simp
  | f :: fs, h => by
    have ih := fil_ge l fs h
    have e : (l.filter fun x => !decide (x ∈ f :: fs)) = (l.filter fun x => !decide (x ∈ fs)).filter (fun x => !decide (x = f)) := by
      rw [List.filter_filter]
      refine List.filter_congr fun x _ => ?_
      by_cases h1 : x = f <;> by_cases h2 : x ∈ fs <;> simp [h1, h2]
    have drop1 : ∀ m : List Str, m.Nodup → m.length ≤ (m.filter fun x => !decide (x = f)).length + 1 := fun m => by
      induction m with
      | nil => intro _; simp
      | cons a m ih =>
        intro hm
        rw [List.nodup_cons] at hm
        by_cases ha : a = f
        · have : (m.filter fun x => !decide (x = f)) = m := List.filter_eq_self.mpr fun x hx => by
            have : x ≠ f := fun z => hm.1 (by rw [ha, ← z]; exact hx)
            simp [this]
          simp [ha, this]
        · have := ih hm.2
          simp [ha]
          omega
    have := drop1 _ (h.sublist (List.filter_sublist (p := fun x => !decide (x ∈ fs))))
    rw [e, List.length_cons]
    omega
theorem cut7 (z : Str) : (cutS z none (some 7)).length ≤ 7 := by
  rw [len_cps]
  unfold cutS HT.sIx
  simp
  omega
theorem inD_str {z : Str} {ys : List Str} : inD (.str z) (ys.map .str) = decide (z ∈ ys) := by
  unfold inD
  induction ys with
  | nil => simp [inV]
  | cons y ys ih =>
    have e : eqV (V.str y) (V.str z) = decide (z = y) := by
      unfold eqV
      by_cases h : z = y
      · simp [h]
      · simp [h, Ne.symm h]
    simp_all [inV, vOf]
theorem flat_strs (ys : List Str) : (ys.map D.str).all flatD = true := List.all_eq_true.mpr fun d hd => by
  obtain ⟨y, _, rfl⟩ := List.mem_map.mp hd
  rfl
theorem one_inj {a : Str} {c d : Nat} (h : a ++ (⟨#[c]⟩ : Str) = a ++ ⟨#[d]⟩) : c = d := by
  have := congrArg (fun z : Str => z.cps.toList) h
  simp only [cps_app, List.append_cancel_left_eq] at this
  simpa using this
/-! ### kinds -/
structure Kd where
  n : Str
  f : Int
  l : Int
abbrev kdF (k : Kd) : List (Str × D) := [("name", .str k.n), ("full", .int k.f), ("least", .int k.l)]
abbrev kdD (k : Kd) : D := .obj "Kind" [("name", .str k.n), ("full", .int k.f), ("least", .int k.l)]
abbrev rowK (k : Kd) : D := .tup [.str k.n, .int k.f, .int k.l]
structure KdOk (k : Kd) : Prop where
  n : isName k.n = true
  f : 1 ≤ k.f ∧ k.f ≤ 1000
  l : 1 ≤ k.l ∧ k.l ≤ k.f
/-- what one piece counts -/
def cnt (k : Kd) (w v : Int) : Int := if k.l ≤ w then v else v * w / k.f
theorem cnt_lo {k : Kd} {w v : Int} (h : ¬ k.l ≤ w) (hf : 1 ≤ k.f) (hw : 1 ≤ w ∧ w ≤ 1000) (hv : 0 ≤ v ∧ v ≤ 1000000) : ∃ q, cnt k w v = q ∧ 0 ≤ q ∧ q ≤ 1000000000 ∧ q * k.f ≤ v * w ∧ v * w < q * k.f + k.f ∧ 0 ≤ v * w ∧ v * w ≤ 1000000000 := by
  have h1 : v * w ≤ 1000000 * 1000 := Int.mul_le_mul hv.2 hw.2 (by omega) (by omega)
  have h0 : 0 ≤ v * w := Int.mul_nonneg hv.1 (by omega)
  refine ⟨v * w / k.f, if_neg h, Int.ediv_nonneg h0 (by omega), ?_, Int.ediv_mul_le _ (by omega), ?_, h0, by omega⟩
  · have := Int.ediv_le_self k.f h0
    omega
  · have := Int.lt_ediv_add_one_mul_self (v * w) (show 0 < k.f by omega)
    rw [Int.add_mul] at this
    omega

theorem enum_map {α : Type} (f : α → D) (l : List α) : enumD (l.map f) = l.zipIdx.map fun p => .tup [.int (p.2 : Nat), f p.1] := by
  unfold enumD
  apply List.ext_getElem?
  intro i
  rw [List.getElem?_mapIdx, List.getElem?_map, List.getElem?_map, List.getElem?_zipIdx]
  cases l[i]? <;> simp
theorem zip_at {α : Type} {l : List α} {pre post : List (α × Nat)} {x : α} {i : Nat} (h : l.zipIdx = pre ++ (x, i) :: post) : i = pre.length ∧ l = pre.map (·.1) ++ x :: post.map (·.1) := by
  constructor
  · have e : l.zipIdx[pre.length]? = some (x, i) := by rw [h]; simp
    rw [List.getElem?_zipIdx] at e
    cases z : l[pre.length]? with
    | none => rw [z] at e; cases e
    | some y => rw [z] at e; simp at e; exact e.2.symm
  · have : l = l.zipIdx.map (·.1) := by simp
    rw [this, h]; simp
theorem lit_cp {z : Str} (h : z.cps.toList.all (fun c => decide (c < 0x110000)) = true) : Al Cp z := fun c hc => of_decide_eq_true (List.all_eq_true.mp h c hc)
theorem name_mem {l : List Str} (h : ∀ z ∈ l, isName z = true) {i : Int} {μ : Mem} {QM' : QM} (h0 : 0 ≤ i) (h1 : i < l.length) (q : ∀ z, z ∈ l → isName z = true → QM' (.str z) μ) : rdIx (.lst (l.map .str)) (.int i) μ QM' := by
  obtain ⟨d, hd, e⟩ := atI_int (l := l.map D.str) h0 (by rw [List.length_map]; exact h1)
  obtain ⟨z, hz, rfl⟩ := List.mem_map.mp hd
  exact i_ixL e (q z hz (h z hz))
theorem int_mem {l : List Int} {i : Int} {μ : Mem} {QM' : QM} (h0 : 0 ≤ i) (h1 : i < l.length) (q : ∀ z, z ∈ l → QM' (.int z) μ) : rdIx (.lst (l.map .int)) (.int i) μ QM' := by
  obtain ⟨d, hd, e⟩ := atI_int (l := l.map D.int) h0 (by rw [List.length_map]; exact h1)
  obtain ⟨z, hz, rfl⟩ := List.mem_map.mp hd
  exact i_ixL e (q z hz)
theorem cut_tail {x : D} {l : List D} : Dl.cutD (x :: l) (some 1) none = l := by
  unfold Dl.cutD
  simp [HT.sIx]
theorem map_mem {α : Type} {f : α → D} {l : List α} {i : Int} {μ : Mem} {QM' : QM} (h0 : 0 ≤ i) (h1 : i < l.length) (q : ∀ z, z ∈ l → QM' (f z) μ) : rdIx (.lst (l.map f)) (.int i) μ QM' := by
  obtain ⟨d, hd, e⟩ := atI_int (l := l.map f) h0 (by rw [List.length_map]; exact h1)
  obtain ⟨z, hz, rfl⟩ := List.mem_map.mp hd
  exact i_ixL e (q z hz)
/-! a book of debts, its book of calls, the law's own rows of calls -/

theorem find_abc {c : Nat} (h : letter c = true) : ∃ i : Nat, i < 26 ∧ Txt.find abc ⟨#[c]⟩ = (i : Int) ∧ abc.cps.toList[i]? = some c := by
  have h : c ∈ abc.cps.toList := of_decide_eq_true h
  obtain ⟨i, hi, e⟩ := List.mem_iff_getElem.mp h
  have all : (List.range 26).all (fun i => decide (Txt.find abc ⟨#[abc.cps.toList.getD i 0]⟩ = (i : Int))) = true := by decide +kernel
  have hl : abc.cps.toList.length = 26 := by decide +kernel
  rw [hl] at hi
  have a := List.all_eq_true.mp all i (List.mem_range.mpr hi)
  have g : abc.cps.toList[i]? = some c := by rw [List.getElem?_eq_getElem (by rw [hl]; exact hi), e]
  have a := of_decide_eq_true a
  rw [List.getD_eq_getElem?_getD, g] at a
  exact ⟨i, hi, a, g⟩
theorem abc_inj {i j c : Nat} (h1 : abc.cps.toList[i]? = some c) (h2 : abc.cps.toList[j]? = some c) : i = j := by
  have nd : abc.cps.toList.Nodup := by decide +kernel
  obtain ⟨l1, e1⟩ := List.getElem?_eq_some_iff.mp h1
  obtain ⟨l2, e2⟩ := List.getElem?_eq_some_iff.mp h2
  have pw := List.pairwise_iff_getElem.mp nd
  rcases Nat.lt_trichotomy i j with z | z | z
  · exact absurd (e1.trans e2.symm) (pw i j l1 l2 z)
  · exact z
  · exact absurd (e2.trans e1.symm) (pw j i l2 l1 z)
variable {P : Program} {w : World} {K : PySem.W.Frag} {mg : Str → Option Value} {base : Heap}
/-! ### _law_mixed: 0 _law_cell, 1 _law_k, 2 _law_mix -/
abbrev N__law_mixed : List Str := ["_law_cell", "_law_k", "_law_mix"]
theorem sc__law_mixed : FnScope N__law_mixed ["_law_cell", "_law_k"] (defScope s__law_mixed) := ⟨rfl, rfl, rfl, by decide +kernel, rfl, by decide +kernel, by decide +kernel⟩
def sp__law_mixed : DSp := Sp2 fun a b μ Q _ => ∃ c k : Int, a = .int c ∧ b = .int k ∧ 0 ≤ k ∧ k ≤ 126 ∧ ∀ r : Int, 0 ≤ r → r < 2147483399 → Q (.int r) μ
instance st_sp__law_mixed {a b : D} {μ : Mem} {Q : QM} {u4 : DX} : Step (sp__law_mixed [a, b] μ Q u4) (∃ c k : Int, a = .int c ∧ b = .int k ∧ 0 ≤ k ∧ k ≤ 126 ∧ ∀ r : Int, 0 ≤ r → r < 2147483399 → Q (.int r) μ) := ⟨fun h => ⟨_, _, rfl, h⟩⟩
def rd__law_mixed (E : DX) : DS := (dSeq (dSet 2 (dOp rdMod (dOp rdPow (dOp rdMod (dOp rdMul (dOp rdAdd (dOp rdAdd (dOp rdMod (dVar 0) (dC (.int 2147483399))) (dOp rdMul (dC (.int 104729)) (dVar 1))) (dC (.int 11))) (dC (.int 48271))) (dC (.int 2147483399))) (dC (.int 5))) (dC (.int 2147483399))))
  (dSeq (dIfS (dTest (dOp rdLt (dVar 0) (dOp rdPow (dC (.int 10)) (dC (.int 18))))) (dRet (dVar 2)) dNext)
  (dRet (dOp rdMod (dOp rdAdd (dVar 2) (dOp rdMod (dOp rdDiv (dVar 0) (dOp rdPow (dC (.int 10)) (dC (.int 18)))) (dOp rdAdd (dC (.int 1)) (dOp rdMul (dOp rdAdd (dVar 1) (dC (.int 1))) (dC (.int 4014476939333036189094441199026045136645885247730)))))) (dC (.int 2147483399))))))
theorem read__law_mixed : ∀ (a0 a1 : D) (μ : Mem) (Q : QM) (E : DX), sp__law_mixed [a0, a1] μ Q E → rd__law_mixed E ⟨fun _ μ2 => Q .non μ2, Q, fun _ _ => False, fun _ _ => False⟩ [.val a0, .val a1, .no] μ := by
  rintro _ _ μ Q E ⟨_, _, e, c, k, rfl, rfl, h0, h1, kq⟩
  cases e
  unfold rd__law_mixed
  walk_at "au"
  all_goals exact kq _ (by omega) (by omega)
theorem c__law_mixed (T : Txt K mg) : Cal P w K mg base 1 "_law_mixed" ["_law_cell", "_law_k"] [] sp__law_mixed := by
  refine cal_of T.d__law_mixed sc__law_mixed (fun ds μ Q E h => by obtain ⟨_, _, rfl, _⟩ := h; rfl) (fun _ _ _ _ _ _ us hl => match us, hl with | [_, _], _ => rfl) (fun f Z cdv A outer s H _ E hr M hcd =>
      ⟨_, (ss_cons (s_set (i := 2) sc__law_mixed.nd (d_op o_mod (d_op o_pow (d_op o_mod (d_op o_mul (d_op o_add (d_op o_add (d_op o_mod (d_var 0) d_int) (d_op o_mul d_int (d_var 1))) d_int) d_int) d_int) d_int) d_int))
      (ss_cons (s_if (t_cmp o_lt (d_var 0) (d_op o_pow d_int d_int))
      (ss_one (s_ret (d_var 2)))
      ss_nil)
      (ss_one (s_ret (d_op o_mod (d_op o_add (d_var 2) (d_op o_mod (d_op o_div (d_var 0) (d_op o_pow d_int d_int)) (d_op o_add d_int (d_op o_mul (d_op o_add (d_var 1) d_int) d_int)))) d_int)))))⟩)
    (fun ds μ Q E h => ?_) (rd := rd__law_mixed)
  obtain ⟨b0, b1, e, h⟩ := id h
  subst e
  exact read__law_mixed b0 b1 μ Q E (by assumption)
/-! ### _law_next: 0 _law_draw, 1 _law_size, 2 _law_at, 3 _law_many, 4 _law_cell -/
abbrev N__law_next : List Str := ["_law_draw", "_law_size", "_law_at", "_law_many", "_law_cell"]
theorem sc__law_next : FnScope N__law_next ["_law_draw", "_law_size"] (defScope s__law_next) := ⟨rfl, rfl, rfl, by decide +kernel, rfl, by decide +kernel, by decide +kernel⟩
def sp__law_next : DSp := Sp2 fun a b μ Q _ => ∃ (ns : List Int) (size : Int), a = .drw ns ∧ b = .int size ∧ 0 < size ∧ ∀ r : Int, 0 ≤ r → r < size → Q (.int r) μ
theorem Scr.sh {a : D} {ns : List Int} (h : Scr a ns) : shD a = true := by
  have e : pd a = some (.list (ns.map PyData.int)) := by
    rcases h.is with rfl | rfl
    · show (pds (ns.map D.int)).map PyData.list = _
      rw [pds_ints]; rfl
    · show (pds (ns.map D.int)).map PyData.list = _
      rw [pds_ints]; rfl
  unfold shD
  rw [e]
  show (PyData.canLay0 (.list (ns.map PyData.int)) && decide (PyData.depth (.list (ns.map PyData.int)) ≤ 64)) = true
  have := dep_ints ns
  simp [PyData.canLay0, lay_ints, PyData.depth]
  omega
theorem Scr.eq0 {a : D} {ns : List Int} (h : Scr a ns) : eqD a (.lst []) = decide (ns = []) := by
  have e : pd a = some (.list (ns.map PyData.int)) := by
    rcases h.is with rfl | rfl
    · show (pds (ns.map D.int)).map PyData.list = _
      rw [pds_ints]; rfl
    · show (pds (ns.map D.int)).map PyData.list = _
      rw [pds_ints]; rfl
  unfold eqD
  rw [e]
  show PyData.eqv (.list (ns.map PyData.int)) (.list []) = _
  cases ns with
  | nil => simp [PyData.eqv, PyData.eqvAll]
  | cons n ns => simp [PyData.eqv, PyData.eqvAll]
instance st_sp__law_next {a b : D} {μ : Mem} {Q : QM} {u4 : DX} : Step (sp__law_next [a, b] μ Q u4) (∃ (ns : List Int) (size : Int), a = .drw ns ∧ b = .int size ∧ 0 < size ∧ ∀ r : Int, 0 ≤ r → r < size → Q (.int r) μ) := ⟨fun h => ⟨_, _, rfl, h⟩⟩
def rd__law_next (E : DX) : DS := (dSeq (dSet 2 (dDrw1 (dVar 0)))
  (dSeq (dSetDrw (dVar 0) (dOp rdAdd (dVar 2) (dC (.int 1))))
  (dSeq (dSet 3 (dCB rdMax2 (dCons (dC (.int 1)) (dCons (dCB rdLen (dCons (dDrw0 (dVar 0)) dNil)) dNil))))
  (dSeq (dSet 4 (dC (.int 0)))
  (dSeq (dIfS (dTest (dOp rdNe (dDrw0 (dVar 0)) (dLst dNil))) (dSet 4 (dOp rdIx (dDrw0 (dVar 0)) (dOp rdMod (dVar 2) (dVar 3)))) dNext)
  (dRet (dOp rdMod (dOp rdDiv (dCallX sp__law_mixed [] (XDE E) (dCons (dVar 4) (dCons (dOp rdMod (dOp rdDiv (dVar 2) (dVar 3)) (dC (.int 127))) dNil))) (dC (.int 7))) (dVar 1))))))))
theorem read__law_next : ∀ (a0 a1 : D) (μ : Mem) (Q : QM) (E : DX), sp__law_next [a0, a1] μ Q E → rd__law_next E ⟨fun _ μ2 => Q .non μ2, Q, fun _ _ => False, fun _ _ => False⟩ [.val a0, .val a1, .no, .no, .no] μ := by
  rintro _ _ μ Q E ⟨_, _, e, ns, size, rfl, rfl, hs, kq⟩
  cases e
  unfold rd__law_next
  walk_at "go"
  intro n hn
  walk_at "go"
  refine ⟨by omega, ?_⟩
  walk_at "go"
  intro hl
  walk_at "go"
  rw [List.length_map]
  walk_at "go"
  intro _
  have sc : Scr (.scr (ns.map .int)) ns := ⟨.inl rfl⟩
  walk_at "go"
  refine i_ne sc.sh rfl ?_
  rw [sc.eq0]
  walk_at "go"
  refine ite_nd (fun h => ?_) (fun h => ?_)
  · walk_at "go"
    intro _
    walk_at "go"
    have hpos : 0 < ns.length := List.length_pos_iff.mpr h
    have e0 : max 1 (ns.length : Int) = ns.length := by omega
    obtain ⟨d, hd', e1⟩ := atI_int (l := ns.map D.int) (i := n % max 1 (ns.length : Int)) (Int.emod_nonneg _ (by omega)) (by rw [List.length_map, e0]; exact Int.emod_lt_of_pos _ (by omega))
    refine i_ixC e1 ?_
    obtain ⟨c, _, rfl⟩ := List.mem_map.mp hd'
    walk_at "au"
    exact kq _ (Int.emod_nonneg _ (by omega)) (Int.emod_lt_of_pos _ hs)
  · walk_at "au"
    exact kq _ (Int.emod_nonneg _ (by omega)) (Int.emod_lt_of_pos _ hs)
theorem c__law_next (T : Txt K mg) : Cal P w K mg base 2 "_law_next" ["_law_draw", "_law_size"] [] sp__law_next := by
  refine cal_of T.d__law_next sc__law_next (fun ds μ Q E h => by obtain ⟨_, _, rfl, _⟩ := h; rfl) (fun _ _ _ _ _ _ us hl => match us, hl with | [_, _], _ => rfl) (fun f Z cdv A outer s H _ E hr M hcd =>
      ⟨_, (ss_cons (s_set (i := 2) sc__law_next.nd (d_drw1 (d_var 0)))
      (ss_cons (s_setDrw (d_var 0) (d_op o_add (d_var 2) d_int))
      (ss_cons (s_set (i := 3) sc__law_next.nd (d_callB (c_max2 rfl) rfl T.b_max boot_max (a_cons d_int (a_cons (d_callB c_len rfl T.b_len PySem.boot_len (a_cons (d_drw0 (d_var 0)) a_nil)) a_nil))))
      (ss_cons (s_set (i := 4) sc__law_next.nd d_int)
      (ss_cons (s_if (t_cmp (o_ne hr.units) (d_drw0 (d_var 0)) (d_lst a_nil))
      (ss_one (s_set (i := 4) sc__law_next.nd (d_ix (d_drw0 (d_var 0)) (d_op o_mod (d_var 2) (d_var 3)))))
      ss_nil)
      (ss_one (s_ret (d_op o_mod (d_op o_div (d_callX 0 (c__law_mixed T) (by decide) dfl0 (hr.mono (by decide)) M (a_cons (d_var 4) (a_cons (d_op o_mod (d_op o_div (d_var 2) (d_var 3)) d_int) a_nil))) d_int) (d_var 1)))))))))⟩)
    (fun ds μ Q E h => ?_) (rd := rd__law_next)
  obtain ⟨b0, b1, e, h⟩ := id h
  subst e
  exact read__law_next b0 b1 μ Q E (by assumption)
/-! ### _law_word: 0 _law_draw, 1 _law_some, 2 _law_word_here, 3 _law_k -/
abbrev N__law_word : List Str := ["_law_draw", "_law_some", "_law_word_here", "_law_k"]
theorem sc__law_word : FnScope N__law_word ["_law_draw"] (defScope s__law_word) := ⟨rfl, rfl, rfl, by decide +kernel, rfl, by decide +kernel, by decide +kernel⟩
def sp__law_word : DSp := Sp1 fun a μ Q _ => ∃ ns, a = .drw ns ∧ ∀ z : Str, isName z = true → Q (.str z) μ
instance st_sp__law_word {a : D} {μ : Mem} {Q : QM} {u3 : DX} : Step (sp__law_word [a] μ Q u3) (∃ ns, a = .drw ns ∧ ∀ z : Str, isName z = true → Q (.str z) μ) := ⟨fun h => ⟨_, rfl, h⟩⟩
def rd__law_word (E : DX) : DS := (dSeq (dSet 1 (dLst (dCons (dC (.str "by")) (dCons (dC (.str "in")) (dCons (dC (.str "at")) (dCons (dC (.str "made")) (dCons (dC (.str "paid")) (dCons (dC (.str "day")) (dCons (dC (.str "least")) (dCons (dC (.str "greatest")) (dCons (dC (.str "for")) (dCons (dC (.str "none")) (dCons (dC (.str "call")) (dCons (dC (.str "held")) (dCons (dC (.str "a")) (dCons (dC (.str "zz")) dNil))))))))))))))))
  (dSeq (dIfS (dTest (dOp rdEq (dCallX sp__law_next [] (XDE E) (dCons (dVar 0) (dCons (dC (.int 4)) dNil))) (dC (.int 0)))) (dRet (dOp rdIx (dVar 1) (dCallX sp__law_next [] (XDE E) (dCons (dVar 0) (dCons (dCB rdLen (dCons (dVar 1) dNil)) dNil))))) dNext)
  (dSeq (dSet 2 (dC (.str "")))
  (dSeq (dFor (diRng1 (dCons (dOp rdAdd (dC (.int 1)) (dCallX sp__law_next [] (XDE E) (dCons (dVar 0) (dCons (dC (.int 8)) dNil)))) dNil)) (gdName 3) (dSet 2 (dOp rdAdd (dVar 2) (dOp rdIx (dC (.str "abcdefghijklmnopqrstuvwxyz")) (dCallX sp__law_next [] (XDE E) (dCons (dVar 0) (dCons (dC (.int 26)) dNil)))))))
  (dRet (dVar 2))))))
theorem read__law_word : ∀ (a0 : D) (μ : Mem) (Q : QM) (E : DX), sp__law_word [a0] μ Q E → rd__law_word E ⟨fun _ μ2 => Q .non μ2, Q, fun _ _ => False, fun _ _ => False⟩ [.val a0, .no, .no, .no] μ := by
  rintro _ μ Q E ⟨_, e, ns, rfl, kq⟩
  cases e
  unfold rd__law_word
  walk_at "go"
  refine ⟨_, _, rfl, rfl, by omega, fun r r0 r1 => ?_⟩
  walk_at "go"
  refine ite_d (fun h => ?_) (fun h => ?_)
  · walk_at "go"
    refine ⟨_, _, rfl, rfl, by decide, fun r r0 r1 => ?_⟩
    obtain ⟨d, hd, e1⟩ := atI_int r0 r1
    refine i_ixL e1 ?_
    have hw : ∀ d ∈ [D.str "by", D.str "in", D.str "at", D.str "made", D.str "paid", D.str "day", D.str "least", D.str "greatest", D.str "for", D.str "none", D.str "call", D.str "held", D.str "a", D.str "zz"], (match d with | .str z => isName z | _ => false) = true := List.all_eq_true.mp (by decide +kernel)
    have h2 := hw d hd
    cases d with
    | str z => exact kq z h2
    | _ => cases h2
  · walk_at "go"
    refine ⟨_, _, rfl, rfl, by omega, fun r r0 r1 => ?_⟩
    walk_at "go"
    refine for_rng (fun i δ μ' => μ' = μ ∧ ∃ z : Str, z.length = i ∧ Al (fun c => letter c = true) z ∧ δ = [.val (.drw ns), .no, .val (.str z), .no]) (wn ⟨rfl, "", by decide +kernel, (fun c h => absurd h (by rw [show (Str.ofString "").cps.toList = [] from by decide +kernel]; exact List.not_mem_nil)), rfl⟩ (by simp [Le])) (fun i δ μ3 hi w => ?_) (fun δ μ3 w => ?_)
    · obtain ⟨rfl, z, hz, ha, rfl⟩ := w
      walk_at "go"
      refine ⟨_, _, rfl, rfl, by omega, fun c c0 c1 => ?_⟩
      walk_at "go"
      refine ⟨⟨c0, by rw [abc_len]; omega⟩, by rw [abc_len]; decide, fun n hn => ?_⟩
      walk_at "go"
      refine ⟨by rw [hz, slen_one]; omega, ?_⟩
      walk_at "go"
      refine wn ⟨rfl, z ++ ⟨#[n]⟩, ?_, ha.app (Al.one (letter_at hn)), rfl⟩ (by simp [Le])
      rw [len_cps, cps_app, List.length_append, ← len_cps, hz]
      rfl
    · obtain ⟨rfl, z, hz, ha, rfl⟩ := w
      walk_at "go"
      exact kq z (isName_of (by omega) (by omega) ha)
theorem c__law_word (T : Txt K mg) : Cal P w K mg base 3 "_law_word" ["_law_draw"] [] sp__law_word := by
  refine cal_of T.d__law_word sc__law_word (fun ds μ Q E h => by obtain ⟨_, rfl, _⟩ := h; rfl) (fun _ _ _ _ _ _ us hl => match us, hl with | [_], _ => rfl) (fun f Z cdv A outer s H _ E hr M hcd =>
      ⟨_, (ss_cons (s_set (i := 1) sc__law_word.nd (d_lst (a_cons d_str (a_cons d_str (a_cons d_str (a_cons d_str (a_cons d_str (a_cons d_str (a_cons d_str (a_cons d_str (a_cons d_str (a_cons d_str (a_cons d_str (a_cons d_str (a_cons d_str (a_cons d_str a_nil))))))))))))))))
      (ss_cons (s_if (t_cmp (o_eq hr.units) (d_callX 0 (c__law_next T) (by decide) dfl0 (hr.mono (by decide)) M (a_cons (d_var 0) (a_cons d_int a_nil))) d_int)
      (ss_one (s_ret (d_ix (d_var 1) (d_callX 0 (c__law_next T) (by decide) dfl0 (hr.mono (by decide)) M (a_cons (d_var 0) (a_cons (d_callB c_len rfl T.b_len PySem.boot_len (a_cons (d_var 1) a_nil)) a_nil))))))
      ss_nil)
      (ss_cons (s_set (i := 2) sc__law_word.nd d_str)
      (ss_cons (s_for M.ow rfl (i_range1 rfl T.b_range (a_cons (d_op o_add d_int (d_callX 0 (c__law_next T) (by decide) dfl0 (hr.mono (by decide)) M (a_cons (d_var 0) (a_cons d_int a_nil)))) a_nil)) (g_name (i := 3) sc__law_word.nd)
      (ss_one (s_set (i := 2) sc__law_word.nd (d_op o_add (d_var 2) (d_ix d_str (d_callX 0 (c__law_next T) (by decide) dfl0 (hr.mono (by decide)) M (a_cons (d_var 0) (a_cons d_int a_nil))))))))
      (ss_one (s_ret (d_var 2)))))))⟩)
    (fun ds μ Q E h => ?_) (rd := rd__law_word)
  obtain ⟨b0, e, h⟩ := id h
  subst e
  exact read__law_word b0 μ Q E (by assumption)
/-! ### _law_near: 0 _law_draw, 1 _law_word_here, 2 _law_way, 3 _law_at, 4 _law_letters, 5 _law_step, 6 _law_sign -/
abbrev N__law_near : List Str := ["_law_draw", "_law_word_here", "_law_way", "_law_at", "_law_letters", "_law_step", "_law_sign"]
theorem sc__law_near : FnScope N__law_near ["_law_draw", "_law_word_here"] (defScope s__law_near) := ⟨rfl, rfl, rfl, by decide +kernel, rfl, by decide +kernel, by decide +kernel⟩
def sp__law_near : DSp := Sp2 fun a b μ Q _ => ∃ (ns : List Int) (z : Str), a = .drw ns ∧ b = .str z ∧ isName z = true ∧ ∀ y : Str, isName y = true → y ≠ z → Q (.str y) μ
instance st_sp__law_near {a b : D} {μ : Mem} {Q : QM} {u4 : DX} : Step (sp__law_near [a, b] μ Q u4) (∃ (ns : List Int) (z : Str), a = .drw ns ∧ b = .str z ∧ isName z = true ∧ ∀ y : Str, isName y = true → y ≠ z → Q (.str y) μ) := ⟨fun h => ⟨_, _, rfl, h⟩⟩
def rd__law_near (E : DX) : DS := (dSeq (dPar 2 3 (dCons (dCallX sp__law_next [] (XDE E) (dCons (dVar 0) (dCons (dC (.int 3)) dNil))) (dCons (dCallX sp__law_next [] (XDE E) (dCons (dVar 0) (dCons (dCB rdLen (dCons (dVar 1) dNil)) dNil))) dNil)))
  (dSeq (dSet 4 (dC (.str "abcdefghijklmnopqrstuvwxyz")))
  (dSeq (dSet 5 (dOp rdAdd (dC (.int 1)) (dCallX sp__law_next [] (XDE E) (dCons (dVar 0) (dCons (dC (.int 25)) dNil)))))
  (dSeq (dSet 6 (dOp rdIx (dVar 4) (dOp rdMod (dOp rdAdd (dBMs rdFind (dVar 4) (dCons (dOp rdIx (dVar 1) (dVar 3)) dNil)) (dVar 5)) (dC (.int 26)))))
  (dSeq (dIfS (dAnd (dTest (dOp rdEq (dVar 2) (dC (.int 0)))) (dTest (dOp rdLt (dCB rdLen (dCons (dVar 1) dNil)) (dC (.int 8))))) (dRet (dOp rdAdd (dOp rdAdd (dSl (dVar 1) dNoPart (dPart (dVar 3))) (dVar 6)) (dSl (dVar 1) (dPart (dVar 3)) dNoPart))) dNext)
  (dSeq (dIfS (dAnd (dTest (dOp rdEq (dVar 2) (dC (.int 1)))) (dTest (dOp rdGt (dCB rdLen (dCons (dVar 1) dNil)) (dC (.int 1))))) (dRet (dOp rdAdd (dSl (dVar 1) dNoPart (dPart (dVar 3))) (dSl (dVar 1) (dPart (dOp rdAdd (dVar 3) (dC (.int 1)))) dNoPart))) dNext)
  (dRet (dOp rdAdd (dOp rdAdd (dSl (dVar 1) dNoPart (dPart (dVar 3))) (dVar 6)) (dSl (dVar 1) (dPart (dOp rdAdd (dVar 3) (dC (.int 1)))) dNoPart)))))))))
theorem read__law_near : ∀ (a0 a1 : D) (μ : Mem) (Q : QM) (E : DX), sp__law_near [a0, a1] μ Q E → rd__law_near E ⟨fun _ μ2 => Q .non μ2, Q, fun _ _ => False, fun _ _ => False⟩ [.val a0, .val a1, .no, .no, .no, .no, .no] μ := by
  rintro _ _ μ Q E ⟨_, _, e, ns, z, rfl, rfl, hz, kq⟩
  cases e
  unfold rd__law_near
  have hl := name_len hz
  have al := name_al hz
  walk_at "go"
  refine ⟨_, _, rfl, rfl, by decide, fun way w0 w1 => ?_⟩
  walk_at "go"
  refine ⟨by omega, ?_⟩
  walk_at "go"
  refine ⟨_, _, rfl, rfl, by omega, fun at_ a0 a1 => ?_⟩
  walk_at "go"
  refine ⟨_, _, rfl, rfl, by decide, fun st s0 s1 => ?_⟩
  walk_at "go"
  refine ⟨⟨a0, a1⟩, by omega, fun c hc => ?_⟩
  have lc : letter c = true := al c (List.mem_of_getElem? hc)
  obtain ⟨i, hi, ei, hci⟩ := find_abc lc
  walk_at "go"
  have ei : Txt.find (Str.ofString "abcdefghijklmnopqrstuvwxyz") ⟨#[c]⟩ = (i : Int) := ei
  rw [ei]
  have l26 : (Str.ofString "abcdefghijklmnopqrstuvwxyz").length = 26 := by decide +kernel
  refine ⟨⟨by omega, by rw [l26]; omega⟩, by rw [l26]; decide, fun c' hc' => ?_⟩
  have hc' : abc.cps.toList[(((i : Int) + (1 + st)) % 26).toNat]? = some c' := hc'
  have lc' : letter c' = true := letter_at hc'
  have ne : c' ≠ c := fun z => by subst z; have := abc_inj hci hc'; omega
  have t1 := slen_to z at_ a0
  have t2 := slen_from z at_ a0
  have t3 := slen_from z (at_ + 1) (by omega)
  have tail : Q (.str (cutS z none (some at_) ++ ⟨#[c']⟩ ++ cutS z (some (at_ + 1)) none)) μ := by
    refine kq _ (isName_of (by rw [slen_app, slen_app, slen_one]; omega) (by rw [slen_app, slen_app, slen_one]; omega) (Al.app (Al.app (Al.cut al _ _) (Al.one lc')) (Al.cut al _ _))) fun e => ?_
    have e2 := congrArg (fun y : Str => y.cps.toList[at_.toNat]?) e
    rw [cps_app, cps_app, List.append_assoc, List.getElem?_append_right (by rw [← slen_cps]; omega), hc] at e2
    rw [show at_.toNat - (cutS z none (some at_)).cps.toList.length = 0 by rw [← slen_cps]; omega] at e2
    have e2 : some c' = some c := e2
    exact ne (Option.some.inj e2)
  walk_at "go"
  refine ite_d (fun h => ?_) (fun h => ?_)
  walk_at "go"
  refine ⟨by omega, ?_⟩
  walk_at "go"
  refine ite_d (fun h1 => ?_) (fun h1 => ?_)
  · repeat (first | walk_at "st" | refine ⟨((by first | omega | (rw [slen_one]; omega) | (rw [slen_app, slen_one]; omega)) : _ + _ ≤ 100000), ?_⟩ | refine ⟨((by omega) : z.length ≤ 100000), ?_⟩)
    refine kq _ (isName_of (by rw [slen_app, slen_app, slen_one]; omega) (by rw [slen_app, slen_app, slen_one]; omega) (Al.app (Al.app (Al.cut al _ _) (Al.one lc')) (Al.cut al _ _))) fun e => ?_
    have e2 := congrArg Str.length e
    rw [slen_app, slen_app, slen_one] at e2
    omega
  all_goals
    walk_at "go"
    refine ite_d (fun h2 => ?_) (fun h2 => ?_)
    · walk_at "go"
      refine ⟨by omega, ?_⟩
      walk_at "go"
      refine ite_d (fun h3 => ?_) (fun h3 => ?_)
      · repeat (first | walk_at "st" | refine ⟨((by first | omega | (rw [slen_one]; omega) | (rw [slen_app, slen_one]; omega)) : _ + _ ≤ 100000), ?_⟩ | refine ⟨((by omega) : z.length ≤ 100000), ?_⟩)
        refine kq _ (isName_of (by rw [slen_app]; omega) (by rw [slen_app]; omega) (Al.app (Al.cut al _ _) (Al.cut al _ _))) fun e => ?_
        have e2 := congrArg Str.length e
        rw [slen_app] at e2
        omega
      · repeat (first | exact tail | walk_at "st" | refine ⟨((by first | omega | (rw [slen_one]; omega) | (rw [slen_app, slen_one]; omega)) : _ + _ ≤ 100000), ?_⟩ | refine ⟨((by omega) : z.length ≤ 100000), ?_⟩)
    · repeat (first | exact tail | walk_at "st" | refine ⟨((by first | omega | (rw [slen_one]; omega) | (rw [slen_app, slen_one]; omega)) : _ + _ ≤ 100000), ?_⟩ | refine ⟨((by omega) : z.length ≤ 100000), ?_⟩)
theorem c__law_near (T : Txt K mg) : Cal P w K mg base 3 "_law_near" ["_law_draw", "_law_word_here"] [] sp__law_near := by
  refine cal_of T.d__law_near sc__law_near (fun ds μ Q E h => by obtain ⟨_, _, rfl, _⟩ := h; rfl) (fun _ _ _ _ _ _ us hl => match us, hl with | [_, _], _ => rfl) (fun f Z cdv A outer s H _ E hr M hcd =>
      ⟨_, (ss_cons (s_par (i := 2) (j := 3) sc__law_near.nd (a_cons (d_callX 0 (c__law_next T) (by decide) dfl0 (hr.mono (by decide)) M (a_cons (d_var 0) (a_cons d_int a_nil))) (a_cons (d_callX 0 (c__law_next T) (by decide) dfl0 (hr.mono (by decide)) M (a_cons (d_var 0) (a_cons (d_callB c_len rfl T.b_len PySem.boot_len (a_cons (d_var 1) a_nil)) a_nil))) a_nil)))
      (ss_cons (s_set (i := 4) sc__law_near.nd d_str)
      (ss_cons (s_set (i := 5) sc__law_near.nd (d_op o_add d_int (d_callX 0 (c__law_next T) (by decide) dfl0 (hr.mono (by decide)) M (a_cons (d_var 0) (a_cons d_int a_nil)))))
      (ss_cons (s_set (i := 6) sc__law_near.nd (d_ix (d_var 4) (d_op o_mod (d_op o_add (d_strM PySem.F.slot_str_find PySem.F.type_str_find mt_find sim_find (d_var 4) (a_cons (d_ix (d_var 1) (d_var 3)) a_nil)) (d_var 5)) d_int)))
      (ss_cons (s_if (t_w (w_and (t_cmp (o_eq hr.units) (d_var 2) d_int) (w_and1 (t_cmp o_lt (d_callB c_len rfl T.b_len PySem.boot_len (a_cons (d_var 1) a_nil)) d_int))))
      (ss_one (s_ret (d_op o_add (d_op o_add (d_slice (d_var 1) po_n (po_s (d_var 3))) (d_var 6)) (d_slice (d_var 1) (po_s (d_var 3)) po_n))))
      ss_nil)
      (ss_cons (s_if (t_w (w_and (t_cmp (o_eq hr.units) (d_var 2) d_int) (w_and1 (t_cmp o_gt (d_callB c_len rfl T.b_len PySem.boot_len (a_cons (d_var 1) a_nil)) d_int))))
      (ss_one (s_ret (d_op o_add (d_slice (d_var 1) po_n (po_s (d_var 3))) (d_slice (d_var 1) (po_s (d_op o_add (d_var 3) d_int)) po_n))))
      ss_nil)
      (ss_one (s_ret (d_op o_add (d_op o_add (d_slice (d_var 1) po_n (po_s (d_var 3))) (d_var 6)) (d_slice (d_var 1) (po_s (d_op o_add (d_var 3) d_int)) po_n))))))))))⟩)
    (fun ds μ Q E h => ?_) (rd := rd__law_near)
  obtain ⟨b0, b1, e, h⟩ := id h
  subst e
  exact read__law_near b0 b1 μ Q E (by assumption)
/-! ### _law_pair: 0 _law_draw, 1 _law_way, 2 _law_word_here, 3 _law_full, 4 _law_least, 5 _law_other -/
abbrev N__law_pair : List Str := ["_law_draw", "_law_way", "_law_word_here", "_law_full", "_law_least", "_law_other"]
theorem sc__law_pair : FnScope N__law_pair ["_law_draw", "_law_way"] (defScope s__law_pair) := ⟨rfl, rfl, rfl, by decide +kernel, rfl, by decide +kernel, by decide +kernel⟩
def sp__law_pair : DSp := Sp2 fun a b μ Q _ => ∃ (ns : List Int) (w : Int), a = .drw ns ∧ b = .int w ∧ 0 ≤ w ∧ w < 4 ∧ ∀ k l : Kd, KdOk k → KdOk l → (decide (k.n = l.n ∧ k.f = l.f ∧ k.l = l.l) = decide (w = 3)) → Q (.lst [rowK k, rowK l]) μ
instance st_sp__law_pair {a b : D} {μ : Mem} {Q : QM} {u4 : DX} : Step (sp__law_pair [a, b] μ Q u4) (∃ (ns : List Int) (w : Int), a = .drw ns ∧ b = .int w ∧ 0 ≤ w ∧ w < 4 ∧ ∀ k l : Kd, KdOk k → KdOk l → (decide (k.n = l.n ∧ k.f = l.f ∧ k.l = l.l) = decide (w = 3)) → Q (.lst [rowK k, rowK l]) μ) := ⟨fun h => ⟨_, _, rfl, h⟩⟩
def rd__law_pair (E : DX) : DS := (dSeq (dSet 2 (dCallX sp__law_word [] (XDE E) (dCons (dVar 0) dNil)))
  (dSeq (dSet 3 (dOp rdAdd (dC (.int 2)) (dCallX sp__law_next [] (XDE E) (dCons (dVar 0) (dCons (dOp rdIx (dLst (dCons (dC (.int 4)) (dCons (dC (.int 999)) dNil))) (dCallX sp__law_next [] (XDE E) (dCons (dVar 0) (dCons (dC (.int 2)) dNil)))) dNil)))))
  (dSeq (dSet 4 (dOp rdAdd (dC (.int 1)) (dCallX sp__law_next [] (XDE E) (dCons (dVar 0) (dCons (dCB rdMin2 (dCons (dC (.int 999)) (dCons (dVar 3) dNil))) dNil)))))
  (dSeq (dSet 5 (dOp rdAdd (dVar 4) (dCallX sp__law_next [] (XDE E) (dCons (dVar 0) (dCons (dOp rdSub (dC (.int 1001)) (dVar 4)) dNil)))))
  (dCut (dIfS (dTest (dOp rdEq (dVar 5) (dVar 3))) (dSet 5 (dOp rdIxB (dLst (dCons (dC (.int 999)) (dCons (dOp rdAdd (dVar 3) (dC (.int 1))) dNil))) (dOp rdLt (dVar 3) (dC (.int 1000))))) dNext)
  (dSeq (dIfS (dTest (dOp rdEq (dVar 1) (dC (.int 0)))) (dRet (dLst (dCons (dTup (dCons (dVar 2) (dCons (dVar 3) (dCons (dVar 4) dNil)))) (dCons (dTup (dCons (dCallX sp__law_near [] (XDE E) (dCons (dVar 0) (dCons (dVar 2) dNil))) (dCons (dVar 3) (dCons (dVar 4) dNil)))) dNil)))) dNext)
  (dSeq (dIfS (dTest (dOp rdEq (dVar 1) (dC (.int 1)))) (dRet (dLst (dCons (dTup (dCons (dVar 2) (dCons (dVar 3) (dCons (dVar 4) dNil)))) (dCons (dTup (dCons (dVar 2) (dCons (dVar 5) (dCons (dVar 4) dNil)))) dNil)))) dNext)
  (dSeq (dIfS (dTest (dOp rdEq (dVar 1) (dC (.int 2)))) (dRet (dLst (dCons (dTup (dCons (dVar 2) (dCons (dVar 3) (dCons (dVar 4) dNil)))) (dCons (dTup (dCons (dVar 2) (dCons (dVar 3) (dCons (dOp rdAdd (dC (.int 1)) (dOp rdMod (dOp rdAdd (dVar 4) (dCallX sp__law_next [] (XDE E) (dCons (dVar 0) (dCons (dOp rdSub (dVar 3) (dC (.int 1))) dNil)))) (dVar 3))) dNil)))) dNil)))) dNext)
  (dRet (dLst (dCons (dTup (dCons (dVar 2) (dCons (dVar 3) (dCons (dVar 4) dNil)))) (dCons (dTup (dCons (dVar 2) (dCons (dVar 3) (dCons (dVar 4) dNil)))) dNil))))))))))))
theorem read__law_pair : ∀ (a0 a1 : D) (μ : Mem) (Q : QM) (E : DX), sp__law_pair [a0, a1] μ Q E → rd__law_pair E ⟨fun _ μ2 => Q .non μ2, Q, fun _ _ => False, fun _ _ => False⟩ [.val a0, .val a1, .no, .no, .no, .no] μ := by
  rintro _ _ μ Q E ⟨_, _, e, ns, w, rfl, rfl, w0, w3, kq⟩
  cases e
  unfold rd__law_pair
  walk_at "go"
  intro z hz
  walk_at "go"
  refine ⟨_, _, rfl, rfl, by decide, fun u u0 u1 => ?_⟩
  walk_at "go"
  refine ⟨by omega, fun m hm => ?_⟩
  have hm : 4 ≤ m ∧ m ≤ 999 := by omega
  walk_at "go"
  refine ⟨_, _, rfl, rfl, by omega, fun f f0 f1 => ?_⟩
  walk_at "go"
  refine ⟨_, _, rfl, rfl, by omega, fun l l0 l1 => ?_⟩
  walk_at "go"
  refine ⟨_, _, rfl, rfl, by omega, fun o o0 o1 => ?_⟩
  walk_at "go"
  refine cut_by (fun δ' μ' => μ' = μ ∧ ∃ x : Int, 1 + l ≤ x ∧ x ≤ 1000 ∧ x ≠ 2 + f ∧ δ' = [.val (.drw ns), .val (.int w), .val (.str z), .val (.int (2 + f)), .val (.int (1 + l)), .val (.int x)]) ?_ ?_
  · walk_at "go"
    refine ite_d (fun h => ?_) (fun h => ?_)
    · walk_at "go"
      refine ⟨fun z => ?_, fun z => ?_⟩
      · have z := of_decide_eq_false z
        walk_at "go"
        exact wn ⟨rfl, 999, by omega, by omega, by omega, rfl⟩ (by simp [Le])
      · have z := of_decide_eq_true z
        walk_at "go"
        exact wn ⟨rfl, 2 + f + 1, by omega, by omega, by omega, rfl⟩ (by simp [Le])
    · walk_at "go"
      exact wn ⟨rfl, _, by omega, by omega, h, rfl⟩ (by simp [Le])
  rintro _ _ ⟨rfl, x, x0, x1, x2, rfl⟩
  have K : ∀ f l : Int, 1 ≤ f → f ≤ 1000 → 1 ≤ l → l ≤ f → KdOk ⟨z, f, l⟩ := fun f l h1 h2 h3 h4 => ⟨hz, ⟨h1, h2⟩, ⟨h3, h4⟩⟩
  walk_at "go"
  refine ite_d (fun h => ?_) (fun h => ?_)
  · walk_at "go"
    refine ⟨ns, z, rfl, rfl, hz, fun y hy ne => ?_⟩
    walk_at "go"
    refine kq ⟨z, 2 + f, 1 + l⟩ ⟨y, 2 + f, 1 + l⟩ (K _ _ (by omega) (by omega) (by omega) (by omega)) ⟨hy, ⟨by show 1 ≤ 2 + f; omega, by show 2 + f ≤ 1000; omega⟩, ⟨by show 1 ≤ 1 + l; omega, by show 1 + l ≤ 2 + f; omega⟩⟩ ?_
    rw [decide_eq_false (fun h => ne h.1.symm), decide_eq_false (by omega)]
  walk_at "go"
  refine ite_d (fun h1 => ?_) (fun h1 => ?_)
  · walk_at "go"
    refine kq ⟨z, 2 + f, 1 + l⟩ ⟨z, x, 1 + l⟩ (K _ _ (by omega) (by omega) (by omega) (by omega)) (K _ _ (by omega) (by omega) (by omega) (by omega)) ?_
    rw [decide_eq_false (fun h => x2 h.2.1.symm), decide_eq_false (by omega)]
  walk_at "go"
  refine ite_d (fun h2 => ?_) (fun h2 => ?_)
  · walk_at "go"
    refine ⟨_, _, rfl, rfl, by omega, fun t t0 t1 => ?_⟩
    walk_at "go"
    have m0 := Int.emod_nonneg (1 + l + t) (show (2 + f) ≠ 0 by omega)
    have m1 := Int.emod_lt_of_pos (1 + l + t) (show 0 < 2 + f by omega)
    have m2 : 1 + (1 + l + t) % (2 + f) ≠ 1 + l := fun z => by
      by_cases q : 1 + l + t < 2 + f
      · rw [Int.emod_eq_of_lt (by omega) q] at z; omega
      · have : (1 + l + t) % (2 + f) = 1 + l + t - (2 + f) := by
          rw [← Int.sub_emod_right, Int.emod_eq_of_lt (by omega) (by omega)]
        rw [this] at z; omega
    generalize (1 + l + t) % (2 + f) = y at m0 m1 m2 ⊢
    walk_at "go"
    refine kq ⟨z, 2 + f, 1 + l⟩ ⟨z, 2 + f, 1 + y⟩ (K _ _ (by omega) (by omega) (by omega) (by omega)) (K _ _ (by omega) (by omega) (by omega) (by omega)) ?_
    rw [decide_eq_false (fun h => m2 h.2.2.symm), decide_eq_false (by omega)]
  walk_at "go"
  refine kq ⟨z, 2 + f, 1 + l⟩ ⟨z, 2 + f, 1 + l⟩ (K _ _ (by omega) (by omega) (by omega) (by omega)) (K _ _ (by omega) (by omega) (by omega) (by omega)) ?_
  rw [decide_eq_true ⟨rfl, rfl, rfl⟩, decide_eq_true (by omega)]
theorem c__law_pair (T : Txt K mg) : Cal P w K mg base 4 "_law_pair" ["_law_draw", "_law_way"] [] sp__law_pair := by
  refine cal_of T.d__law_pair sc__law_pair (fun ds μ Q E h => by obtain ⟨_, _, rfl, _⟩ := h; rfl) (fun _ _ _ _ _ _ us hl => match us, hl with | [_, _], _ => rfl) (fun f Z cdv A outer s H _ E hr M hcd =>
      ⟨_, (ss_cons (s_set (i := 2) sc__law_pair.nd (d_callX 0 (c__law_word T) (by decide) dfl0 (hr.mono (by decide)) M (a_cons (d_var 0) a_nil)))
      (ss_cons (s_set (i := 3) sc__law_pair.nd (d_op o_add d_int (d_callX 0 (c__law_next T) (by decide) dfl0 (hr.mono (by decide)) M (a_cons (d_var 0) (a_cons (d_ix (d_lst (a_cons d_int (a_cons d_int a_nil))) (d_callX 0 (c__law_next T) (by decide) dfl0 (hr.mono (by decide)) M (a_cons (d_var 0) (a_cons d_int a_nil)))) a_nil)))))
      (ss_cons (s_set (i := 4) sc__law_pair.nd (d_op o_add d_int (d_callX 0 (c__law_next T) (by decide) dfl0 (hr.mono (by decide)) M (a_cons (d_var 0) (a_cons (d_callB (c_min2 rfl) rfl T.b_min (by decide +kernel) (a_cons d_int (a_cons (d_var 3) a_nil))) a_nil)))))
      (ss_cons (s_set (i := 5) sc__law_pair.nd (d_op o_add (d_var 4) (d_callX 0 (c__law_next T) (by decide) dfl0 (hr.mono (by decide)) M (a_cons (d_var 0) (a_cons (d_op o_sub d_int (d_var 4)) a_nil)))))
      (ss_cut (s_if (t_cmp (o_eq hr.units) (d_var 5) (d_var 3))
      (ss_one (s_set (i := 5) sc__law_pair.nd (d_ixB (d_lst (a_cons d_int (a_cons (d_op o_add (d_var 3) d_int) a_nil))) (d_cmp o_lt (d_var 3) d_int))))
      ss_nil)
      (ss_cons (s_if (t_cmp (o_eq hr.units) (d_var 1) d_int)
      (ss_one (s_ret (d_lst (a_cons (d_tup (a_cons (d_var 2) (a_cons (d_var 3) (a_cons (d_var 4) a_nil)))) (a_cons (d_tup (a_cons (d_callX 0 (c__law_near T) (by decide) dfl0 (hr.mono (by decide)) M (a_cons (d_var 0) (a_cons (d_var 2) a_nil))) (a_cons (d_var 3) (a_cons (d_var 4) a_nil)))) a_nil)))))
      ss_nil)
      (ss_cons (s_if (t_cmp (o_eq hr.units) (d_var 1) d_int)
      (ss_one (s_ret (d_lst (a_cons (d_tup (a_cons (d_var 2) (a_cons (d_var 3) (a_cons (d_var 4) a_nil)))) (a_cons (d_tup (a_cons (d_var 2) (a_cons (d_var 5) (a_cons (d_var 4) a_nil)))) a_nil)))))
      ss_nil)
      (ss_cons (s_if (t_cmp (o_eq hr.units) (d_var 1) d_int)
      (ss_one (s_ret (d_lst (a_cons (d_tup (a_cons (d_var 2) (a_cons (d_var 3) (a_cons (d_var 4) a_nil)))) (a_cons (d_tup (a_cons (d_var 2) (a_cons (d_var 3) (a_cons (d_op o_add d_int (d_op o_mod (d_op o_add (d_var 4) (d_callX 0 (c__law_next T) (by decide) dfl0 (hr.mono (by decide)) M (a_cons (d_var 0) (a_cons (d_op o_sub (d_var 3) d_int) a_nil)))) (d_var 3))) a_nil)))) a_nil)))))
      ss_nil)
      (ss_one (s_ret (d_lst (a_cons (d_tup (a_cons (d_var 2) (a_cons (d_var 3) (a_cons (d_var 4) a_nil)))) (a_cons (d_tup (a_cons (d_var 2) (a_cons (d_var 3) (a_cons (d_var 4) a_nil)))) a_nil)))))))))))))⟩)
    (fun ds μ Q E h => ?_) (rd := rd__law_pair)
  obtain ⟨b0, b1, e, h⟩ := id h
  subst e
  exact read__law_pair b0 b1 μ Q E (by assumption)
/-! ### is_name: 0 text, 1 sign -/
abbrev N_is_name : List Str := ["text", "sign"]
theorem sc_is_name : FnScope N_is_name ["text"] (defScope s_is_name) := ⟨rfl, rfl, rfl, by decide +kernel, rfl, by decide +kernel, by decide +kernel⟩
def sp_is_name : DSp := Sp1 fun a μ Q _ => ∃ z, a = .str z ∧ z.length ≤ 1000 ∧ Q (.bl (isName z)) μ
instance st_sp_is_name {a : D} {μ : Mem} {Q : QM} {u3 : DX} : Step (sp_is_name [a] μ Q u3) (∃ z, a = .str z ∧ z.length ≤ 1000 ∧ Q (.bl (isName z)) μ) := ⟨fun h => ⟨_, rfl, h⟩⟩
def rd_is_name (E : DX) : DS := (dSeq (dIfS (dNot (dTest (dChain rdLe rdLe (dC (.int 1)) (dCB rdLen (dCons (dVar 0) dNil)) (dC (.int 8))))) (dRet (dC (.bl false))) dNext)
  (dRet (dCB rdAll (dCons (dIce (fLc (diStr (dVar 0)) (gdName 1) dYes (dOp rdInS (dVar 1) (dC (.str "abcdefghijklmnopqrstuvwxyz"))) [1])) dNil))))
theorem read_is_name : ∀ (a0 : D) (μ : Mem) (Q : QM) (E : DX), sp_is_name [a0] μ Q E → rd_is_name E ⟨fun _ μ2 => Q .non μ2, Q, fun _ _ => False, fun _ _ => False⟩ [.val a0, .no] μ := by
  rintro _ μ Q E ⟨_, e, z, rfl, hz, kq⟩
  cases e
  unfold rd_is_name
  walk_at "go"
  refine ⟨by omega, ?_⟩
  walk_at "go"
  refine ite_d (fun h1 => ?_) (fun h1 => ?_)
  · walk_at "go"
    refine ite_nd (fun h2 => ?_) (fun h2 => ?_)
    · walk_at "go"
      have e : isName z = false := by
        unfold isName
        rw [decide_eq_false (by omega)]; rfl
      rw [e] at kq
      exact kq
    · walk_at "go"
      refine by_lc (fun i acc μ' => μ' = μ ∧ acc = ((z.cps.toList.take i).map letter).map .bl) ?_ ⟨rfl, rfl⟩ (fun i d acc μ1 hi hd w => ?_) (fun acc μ1 w => ?_)
      · rfl
      · obtain ⟨rfl, rfl⟩ := w
        obtain ⟨c, hc, rfl⟩ := signs_get hd
        walk_at "wp"
        walk_at "go"
        refine ⟨sz_lt (by simp; rw [signs_len] at hi; have : z.cps.size = z.length := rfl; omega), rfl, ?_⟩
        rw [take_succ_get hc, List.map_append, List.map_append]
        rfl
      · obtain ⟨rfl, rfl⟩ := w
        rw [signs_len, List.take_of_length_le (by simp)]
        walk_at "go"
        have e : isName z = ((z.cps.toList.map letter).all id) := by
          unfold isName
          rw [decide_eq_true ⟨by omega, by omega⟩, List.all_map, Bool.true_and]
          rfl
        rw [e] at kq
        exact kq
  · walk_at "go"
    have e : isName z = false := by
      unfold isName
      rw [decide_eq_false (by omega)]; rfl
    rw [e] at kq
    exact kq
theorem c_is_name (T : Txt K mg) : Cal P w K mg base 1 "is_name" ["text"] [] sp_is_name := by
  refine cal_of T.d_is_name sc_is_name (fun ds μ Q E h => by obtain ⟨_, rfl, _⟩ := h; rfl) (fun _ _ _ _ _ _ us hl => match us, hl with | [_], _ => rfl) (fun f Z cdv A outer s H _ E hr M hcd =>
      ⟨_, (ss_cons (s_if (t_not (t_chain o_le o_le d_int (d_callB c_len rfl T.b_len PySem.boot_len (a_cons (d_var 0) a_nil)) d_int))
      (ss_one (s_ret d_bl))
      ss_nil)
      (ss_one (s_ret (d_callB (c_all rfl) rfl T.b_all (by decide +kernel) (a_cons (d_ice (f_lc (own := [("sign", 1)]) rfl sc_is_name.nd (go_name (by decide)) (i_str (d_var 0)) (blkOk_by (N := N_is_name) (sc := defScope s_is_name) (by decide +kernel)) (fun _ _ _ _ _ => (g_name (i := 1) sc_is_name.nd)) (fun _ _ _ _ _ => ts_nil) (fun _ _ _ _ _ => (d_cmp o_inS (d_var 1) d_str)))) a_nil)))))⟩)
    (fun ds μ Q E h => ?_) (rd := rd_is_name)
  obtain ⟨b0, e, h⟩ := id h
  subst e
  exact read_is_name b0 μ Q E (by assumption)
/-! ### ask_name: 0 text -/
abbrev N_ask_name : List Str := ["text"]
theorem sc_ask_name : FnScope N_ask_name ["text"] (defScope s_ask_name) := ⟨rfl, rfl, rfl, by decide +kernel, rfl, by decide +kernel, by decide +kernel⟩
def sp_ask_name : DSp := Sp1 fun a μ Q E => ∃ z, a = .str z ∧ z.length ≤ 1000 ∧ (isName z = true → Q .non μ) ∧ (isName z = false → E "NoName" none μ)
instance st_sp_ask_name {a : D} {μ : Mem} {Q : QM} {E : DX} : Step (sp_ask_name [a] μ Q E) (∃ z, a = .str z ∧ z.length ≤ 1000 ∧ (isName z = true → Q .non μ) ∧ (isName z = false → E "NoName" none μ)) := ⟨fun h => ⟨_, rfl, h⟩⟩
def rd_ask_name (E : DX) : DS := (dIfS (dOr (dNot (dTest (dCB rdIsi (dCons (dVar 0) (dCons (dC (.ty "str")) dNil))))) (dNot (dTest (dCallX sp_is_name [] (XDE E) (dCons (dVar 0) dNil))))) (dRaise (XDE E) "NoName") dNext)
theorem read_ask_name : ∀ (a0 : D) (μ : Mem) (Q : QM) (E : DX), sp_ask_name [a0] μ Q E → rd_ask_name E ⟨fun _ μ2 => Q .non μ2, Q, fun _ _ => False, fun _ _ => False⟩ [.val a0] μ := by
  rintro _ μ Q E ⟨_, e, z, rfl, hz, k1, k2⟩
  cases e
  unfold rd_ask_name
  walk_at "au"
  · exact k2 (by assumption)
  · exact k1 (by assumption)
theorem c_ask_name (T : Txt K mg) : Cal P w K mg base 2 "ask_name" ["text"] [] sp_ask_name := by
  refine cal_of T.d_ask_name sc_ask_name (fun ds μ Q E h => by obtain ⟨_, rfl, _⟩ := h; rfl) (fun _ _ _ _ _ _ us hl => match us, hl with | [_], _ => rfl) (fun f Z cdv A outer s H _ E hr M hcd =>
      ⟨_, (ss_one (s_if (t_w (w_or (t_not (t_valP (d_callB c_isi rfl T.b_isinstance (by decide +kernel) (a_cons (d_var 0) (a_cons (d_bltn rfl T.b_str (by decide +kernel)) a_nil))))) (w_or1 (t_not (t_valP (d_callX 0 (c_is_name T) (by decide) dfl0 (hr.mono (by decide)) M (a_cons (d_var 0) a_nil)))))))
      (ss_one (s_raise M T.ec_NoName))
      ss_nil))⟩)
    (fun ds μ Q E h => ?_) (rd := rd_ask_name)
  obtain ⟨b0, e, h⟩ := id h
  subst e
  exact read_ask_name b0 μ Q E (by assumption)
/-! ### is_number: 0 thing, 1 low, 2 high -/
abbrev N_is_number : List Str := ["thing", "low", "high"]
theorem sc_is_number : FnScope N_is_number ["thing", "low", "high"] (defScope s_is_number) := ⟨rfl, rfl, rfl, by decide +kernel, rfl, by decide +kernel, by decide +kernel⟩
def sp_is_number : DSp := Sp3 fun a b c μ Q _ => ∃ lo hi k, b = .int lo ∧ c = .int hi ∧ numOk lo hi a = some k ∧ Q (.bl k) μ
instance st_sp_is_number {a b c : D} {μ : Mem} {Q : QM} {u5 : DX} : Step (sp_is_number [a, b, c] μ Q u5) (∃ lo hi k, b = .int lo ∧ c = .int hi ∧ numOk lo hi a = some k ∧ Q (.bl k) μ) := ⟨fun h => ⟨_, _, _, rfl, h⟩⟩
def rd_is_number (E : DX) : DS := (dSeq (dIfS (dOr (dTest (dCB rdIsi (dCons (dVar 0) (dCons (dC (.ty "bool")) dNil)))) (dNot (dTest (dCB rdIsi (dCons (dVar 0) (dCons (dC (.ty "int")) dNil)))))) (dRet (dC (.bl false))) dNext)
  (dRet (dChain rdLe rdLe (dVar 1) (dVar 0) (dVar 2))))
theorem read_is_number : ∀ (a0 a1 a2 : D) (μ : Mem) (Q : QM) (E : DX), sp_is_number [a0, a1, a2] μ Q E → rd_is_number E ⟨fun _ μ2 => Q .non μ2, Q, fun _ _ => False, fun _ _ => False⟩ [.val a0, .val a1, .val a2] μ := by
  rintro _ _ _ μ Q E ⟨_, _, _, e, lo, hi, k, rfl, rfl, hk, kq⟩
  cases e
  unfold rd_is_number
  rename_i a
  cases a with
  | int i =>
    cases (show some _ = some _ from hk)
    walk_at "go"
    refine ite_d (fun h => ?_) (fun h => ?_)
    · walk_at "go"
      rw [decide_eq_decide.mpr (show lo ≤ i ∧ i ≤ hi ↔ i ≤ hi by omega)] at kq
      exact kq
    · walk_at "go"
      rw [decide_eq_false (by omega)] at kq
      exact kq
  | bl b =>
    cases (show some _ = some _ from hk)
    walk_at "go"
    exact kq
  | _ => cases hk
theorem c_is_number (T : Txt K mg) : Cal P w K mg base 1 "is_number" ["thing", "low", "high"] [] sp_is_number := by
  refine cal_of T.d_is_number sc_is_number (fun ds μ Q E h => by obtain ⟨_, _, _, rfl, _⟩ := h; rfl) (fun _ _ _ _ _ _ us hl => match us, hl with | [_, _, _], _ => rfl) (fun f Z cdv A outer s H _ E hr M hcd =>
      ⟨_, (ss_cons (s_if (t_w (w_or (t_valP (d_callB c_isi rfl T.b_isinstance (by decide +kernel) (a_cons (d_var 0) (a_cons (d_bltn rfl T.b_bool (by decide +kernel)) a_nil)))) (w_or1 (t_not (t_valP (d_callB c_isi rfl T.b_isinstance (by decide +kernel) (a_cons (d_var 0) (a_cons (d_bltn rfl T.b_int (by decide +kernel)) a_nil))))))))
      (ss_one (s_ret d_bl))
      ss_nil)
      (ss_one (s_ret (d_chain o_le o_le (d_var 1) (d_var 0) (d_var 2)))))⟩)
    (fun ds μ Q E h => ?_) (rd := rd_is_number)
  obtain ⟨b0, b1, b2, e, h⟩ := id h
  subst e
  exact read_is_number b0 b1 b2 μ Q E (by assumption)
/-! ### Kind.__init__: 0 self, 1 name, 2 full, 3 least -/
abbrev N_Kind___init__ : List Str := ["self", "name", "full", "least"]
theorem sc_Kind___init__ : FnScope N_Kind___init__ ["self", "name", "full", "least"] (defScope s_Kind___init__) := ⟨rfl, rfl, rfl, by decide +kernel, rfl, by decide +kernel, by decide +kernel⟩
def sp_Kind___init__ : DSp := Sp4 fun a b c d μ Q E => ∃ p μ0 z kf, a = .ref p ∧ μ = updM μ0 p (.obj "Kind" []) ∧ b = .str z ∧ z.length ≤ 1000 ∧ numOk 1 1000 c = some kf ∧
  (isName z = false → E "NoName" none μ) ∧ (isName z = true → kf = false → E "NoWeight" none μ) ∧
  (isName z = true → kf = true → ∃ f kl, c = .int f ∧ numOk 1 f d = some kl ∧ (kl = false → E "NoWeight" none μ) ∧ (kl = true → ∃ l, d = .int l ∧ Q .non (updM μ0 p (.obj "Kind" [("name", .str z), ("full", .int f), ("least", .int l)]))))
instance st_sp_Kind___init__ {a b c d : D} {μ : Mem} {Q : QM} {E : DX} : Step (sp_Kind___init__ [a, b, c, d] μ Q E) (∃ p μ0 z kf, a = .ref p ∧ μ = updM μ0 p (.obj "Kind" []) ∧ b = .str z ∧ z.length ≤ 1000 ∧ numOk 1 1000 c = some kf ∧
  (isName z = false → E "NoName" none μ) ∧ (isName z = true → kf = false → E "NoWeight" none μ) ∧
  (isName z = true → kf = true → ∃ f kl, c = .int f ∧ numOk 1 f d = some kl ∧ (kl = false → E "NoWeight" none μ) ∧ (kl = true → ∃ l, d = .int l ∧ Q .non (updM μ0 p (.obj "Kind" [("name", .str z), ("full", .int f), ("least", .int l)]))))) := ⟨fun h => ⟨_, _, _, _, rfl, h⟩⟩
def rd_Kind___init__ (E : DX) : DS := (dSeq (dDrop (dCallX sp_ask_name [] (XDE E) (dCons (dVar 1) dNil)))
  (dSeq (dIfS (dOr (dNot (dTest (dCallX sp_is_number [] (XDE E) (dCons (dVar 2) (dCons (dC (.int 1)) (dCons (dC (.int 1000)) dNil)))))) (dNot (dTest (dCallX sp_is_number [] (XDE E) (dCons (dVar 3) (dCons (dC (.int 1)) (dCons (dVar 2) dNil))))))) (dRaise (XDE E) "NoWeight") dNext)
  (dSeq (dSetFld "Kind" "name" (dVar 0) (dVar 1))
  (dSeq (dSetFld "Kind" "full" (dVar 0) (dVar 2))
  (dSetFld "Kind" "least" (dVar 0) (dVar 3))))))
theorem read_Kind___init__ : ∀ (a0 a1 a2 a3 : D) (μ : Mem) (Q : QM) (E : DX), sp_Kind___init__ [a0, a1, a2, a3] μ Q E → rd_Kind___init__ E ⟨fun _ μ2 => Q .non μ2, Q, fun _ _ => False, fun _ _ => False⟩ [.val a0, .val a1, .val a2, .val a3] μ := by
  rintro _ _ _ _ μ Q E ⟨_, _, _, _, e, p, μ0, z, kf, rfl, rfl, rfl, hz, hf, k1, k2, k3⟩
  cases e
  unfold rd_Kind___init__
  walk_at "go"
  refine ⟨hz, fun n1 => ?_, fun n1 => k1 n1⟩
  walk_at "go"
  refine ⟨1, 1000, kf, rfl, rfl, hf, ?_⟩
  walk_at "go"
  refine ite_nb (fun h => ?_) (fun h => ?_)
  · walk_at "go"
    exact k2 n1 h
  obtain ⟨f, kl, rfl, hl, k4, k5⟩ := k3 n1 h
  walk_at "go"
  refine ⟨1, f, kl, rfl, rfl, hl, ?_⟩
  walk_at "go"
  refine ite_nb (fun h => ?_) (fun h => ?_)
  · walk_at "go"
    exact k4 h
  obtain ⟨l, rfl, k6⟩ := k5 h
  walk_at "go"
  refine tof_ref (fs := []) updM_same pt_Kind_name (by decide) ?_
  rw [updM_upd]
  walk_at "go"
  refine tof_ref (fs := [("name", .str z)]) updM_same pt_Kind_full (by simp) ?_
  rw [updM_upd]
  walk_at "go"
  refine tof_ref (fs := [("name", .str z), ("full", .int f)]) updM_same pt_Kind_least (by simp) ?_
  rw [updM_upd]
  exact k6
theorem c_Kind___init__ (T : Txt K mg) : CalI P w K mg base 3 "Kind" ["self", "name", "full", "least"] [] sp_Kind___init__ := by
  refine calI_of T.d_Kind___init__ sc_Kind___init__ (fun ds μ Q E h => by obtain ⟨_, _, _, _, rfl, _⟩ := h; rfl) (fun _ _ _ _ _ _ us hl => match us, hl with | [_, _, _, _], _ => rfl) (fun f Z cdv A outer s H _ E hr M hcd =>
      ⟨_, (ss_cons (s_expr (d_callX 0 (c_ask_name T) (by decide) dfl0 (hr.mono (by decide)) M (a_cons (d_var 1) a_nil)))
      (ss_cons (s_if (t_w (w_or (t_not (t_valP (d_callX 0 (c_is_number T) (by decide) dfl0 (hr.mono (by decide)) M (a_cons (d_var 2) (a_cons d_int (a_cons (d_globI rfl T.g_MOST_WEIGHT.choose_spec ⟨_, rfl⟩) a_nil)))))) (w_or1 (t_not (t_valP (d_callX 0 (c_is_number T) (by decide) dfl0 (hr.mono (by decide)) M (a_cons (d_var 3) (a_cons d_int (a_cons (d_var 2) a_nil)))))))))
      (ss_one (s_raise M T.ec_NoWeight))
      ss_nil)
      (ss_cons (s_setFldP T.cl_Kind T.na_Kind_name (d_var 0) (d_var 1))
      (ss_cons (s_setFldP T.cl_Kind T.na_Kind_full (d_var 0) (d_var 2))
      (ss_one (s_setFldP T.cl_Kind T.na_Kind_least (d_var 0) (d_var 3)))))))⟩)
    (fun ds μ Q E h => ?_) (rd := rd_Kind___init__)
  obtain ⟨b0, b1, b2, b3, e, h⟩ := id h
  subst e
  exact read_Kind___init__ b0 b1 b2 b3 μ Q E (by assumption)
/-! ### Kind.__eq__: 0 self, 1 other -/
abbrev N_Kind___eq__ : List Str := ["self", "other"]
theorem sc_Kind___eq__ : FnScope N_Kind___eq__ ["self", "other"] (defScope s_Kind___eq__) := ⟨rfl, rfl, rfl, by decide +kernel, rfl, by decide +kernel, by decide +kernel⟩
def sp_Kind___eq__ : DSp := Sp2 fun a b μ Q _ => ∃ k l : Kd, a = kdD k ∧ b = kdD l ∧ Al Cp k.n ∧ Al Cp l.n ∧ Q (.bl (decide (k.n = l.n ∧ k.f = l.f ∧ k.l = l.l))) μ
instance st_sp_Kind___eq__ {a b : D} {μ : Mem} {Q : QM} {u4 : DX} : Step (sp_Kind___eq__ [a, b] μ Q u4) (∃ k l : Kd, a = kdD k ∧ b = kdD l ∧ Al Cp k.n ∧ Al Cp l.n ∧ Q (.bl (decide (k.n = l.n ∧ k.f = l.f ∧ k.l = l.l))) μ) := ⟨fun h => ⟨_, _, rfl, h⟩⟩
def rd_Kind___eq__ (E : DX) : DS := (dSeq (dIfS (dNot (dTest (dIsC exs objs "Kind" (dVar 1)))) (dRet (dC (.bl false))) dNext)
  (dRet (dOp rdEq (dTup (dCons (dFld "Kind" "name" (dVar 0)) (dCons (dFld "Kind" "full" (dVar 0)) (dCons (dFld "Kind" "least" (dVar 0)) dNil)))) (dTup (dCons (dFld "Kind" "name" (dVar 1)) (dCons (dFld "Kind" "full" (dVar 1)) (dCons (dFld "Kind" "least" (dVar 1)) dNil)))))))
theorem read_Kind___eq__ : ∀ (a0 a1 : D) (μ : Mem) (Q : QM) (E : DX), sp_Kind___eq__ [a0, a1] μ Q E → rd_Kind___eq__ E ⟨fun _ μ2 => Q .non μ2, Q, fun _ _ => False, fun _ _ => False⟩ [.val a0, .val a1] μ := by
  rintro _ _ μ Q E ⟨_, _, e, k, l, rfl, rfl, ck, cl, kq⟩
  cases e
  unfold rd_Kind___eq__
  walk_at "go"
  refine isC_obj (b := true) (by decide +kernel) ?_
  walk_at "go"
  have pk : ∀ k : Kd, Al Cp k.n → plD 2 (.tup [.str k.n, .int k.f, .int k.l]) := fun k h => pl_tup (pls_cons (pl_str h) (pls_cons pl_int (pls_cons pl_int pls_nil)))
  refine eq_pl (b := decide (k.n = l.n ∧ k.f = l.f ∧ k.l = l.l)) (pk k ck) (pk l cl) (by decide) (by decide) ?_ ?_
  · rw [eqD_tup, eqDs_cons, eqDs_cons, eqDs_cons, eqDs_nil, eqD_str, eqD_int, eqD_int]
    simp
  walk_at "go"
  exact kq
theorem c_Kind___eq__ (T : Txt K mg) : CalM P w K mg base 1 "Kind" "__eq__" ["self", "other"] [] sp_Kind___eq__ := by
  refine calM_of T.d_Kind___eq__ sc_Kind___eq__ (fun ds μ Q E h => by obtain ⟨_, _, rfl, _⟩ := h; rfl) (fun _ _ _ _ _ _ us hl => match us, hl with | [_, _], _ => rfl) (fun f Z cdv A outer s H _ E hr M hcd =>
      ⟨_, (ss_cons (s_if (t_not (t_valP (d_isC T.cs T.gc_Kind T.b_isinstance (d_var 1))))
      (ss_one (s_ret d_bl))
      ss_nil)
      (ss_one (s_ret (d_cmp (o_eq hr.units) (d_tup (a_cons (d_fld T.cl_Kind T.na_Kind_name (d_var 0)) (a_cons (d_fld T.cl_Kind T.na_Kind_full (d_var 0)) (a_cons (d_fld T.cl_Kind T.na_Kind_least (d_var 0)) a_nil)))) (d_tup (a_cons (d_fld T.cl_Kind T.na_Kind_name (d_var 1)) (a_cons (d_fld T.cl_Kind T.na_Kind_full (d_var 1)) (a_cons (d_fld T.cl_Kind T.na_Kind_least (d_var 1)) a_nil))))))))⟩)
    (fun ds μ Q E h => ?_) (rd := rd_Kind___eq__)
  obtain ⟨b0, b1, e, h⟩ := id h
  subst e
  exact read_Kind___eq__ b0 b1 μ Q E (by assumption)
/-! ### Kind.ask_weight: 0 self, 1 weight -/
abbrev N_Kind_ask_weight : List Str := ["self", "weight"]
theorem sc_Kind_ask_weight : FnScope N_Kind_ask_weight ["self", "weight"] (defScope s_Kind_ask_weight) := ⟨rfl, rfl, rfl, by decide +kernel, rfl, by decide +kernel, by decide +kernel⟩
def sp_Kind_ask_weight : DSp := Sp2 fun a b μ Q E => ∃ k kw, a = kdD k ∧ numOk 1 k.f b = some kw ∧ (kw = true → Q .non μ) ∧ (kw = false → E "NoWeight" none μ)
instance st_sp_Kind_ask_weight {a b : D} {μ : Mem} {Q : QM} {E : DX} : Step (sp_Kind_ask_weight [a, b] μ Q E) (∃ k kw, a = kdD k ∧ numOk 1 k.f b = some kw ∧ (kw = true → Q .non μ) ∧ (kw = false → E "NoWeight" none μ)) := ⟨fun h => ⟨_, _, rfl, h⟩⟩
def rd_Kind_ask_weight (E : DX) : DS := (dIfS (dNot (dTest (dCallX sp_is_number [] (XDE E) (dCons (dVar 1) (dCons (dC (.int 1)) (dCons (dFld "Kind" "full" (dVar 0)) dNil)))))) (dRaise (XDE E) "NoWeight") dNext)
theorem read_Kind_ask_weight : ∀ (a0 a1 : D) (μ : Mem) (Q : QM) (E : DX), sp_Kind_ask_weight [a0, a1] μ Q E → rd_Kind_ask_weight E ⟨fun _ μ2 => Q .non μ2, Q, fun _ _ => False, fun _ _ => False⟩ [.val a0, .val a1] μ := by
  rintro _ _ μ Q E ⟨_, _, e, k, kw, rfl, hk, k1, k2⟩
  cases e
  unfold rd_Kind_ask_weight
  walk_at "go"
  refine ⟨1, k.f, kw, rfl, rfl, hk, ?_⟩
  walk_at "au"
  · exact k2 (by assumption)
  · exact k1 (by assumption)
theorem c_Kind_ask_weight (T : Txt K mg) : CalM P w K mg base 2 "Kind" "ask_weight" ["self", "weight"] [] sp_Kind_ask_weight := by
  refine calM_of T.d_Kind_ask_weight sc_Kind_ask_weight (fun ds μ Q E h => by obtain ⟨_, _, rfl, _⟩ := h; rfl) (fun _ _ _ _ _ _ us hl => match us, hl with | [_, _], _ => rfl) (fun f Z cdv A outer s H _ E hr M hcd =>
      ⟨_, (ss_one (s_if (t_not (t_valP (d_callX 0 (c_is_number T) (by decide) dfl0 (hr.mono (by decide)) M (a_cons (d_var 1) (a_cons d_int (a_cons (d_fld T.cl_Kind T.na_Kind_full (d_var 0)) a_nil))))))
      (ss_one (s_raise M T.ec_NoWeight))
      ss_nil))⟩)
    (fun ds μ Q E h => ?_) (rd := rd_Kind_ask_weight)
  obtain ⟨b0, b1, e, h⟩ := id h
  subst e
  exact read_Kind_ask_weight b0 b1 μ Q E (by assumption)
/-! ### ask_worth: 0 worth -/
abbrev N_ask_worth : List Str := ["worth"]
theorem sc_ask_worth : FnScope N_ask_worth ["worth"] (defScope s_ask_worth) := ⟨rfl, rfl, rfl, by decide +kernel, rfl, by decide +kernel, by decide +kernel⟩
def sp_ask_worth : DSp := Sp1 fun a μ Q E => ∃ k, numOk 0 1000000 a = some k ∧ (k = true → Q .non μ) ∧ (k = false → E "NoWorth" none μ)
instance st_sp_ask_worth {a : D} {μ : Mem} {Q : QM} {E : DX} : Step (sp_ask_worth [a] μ Q E) (∃ k, numOk 0 1000000 a = some k ∧ (k = true → Q .non μ) ∧ (k = false → E "NoWorth" none μ)) := ⟨fun h => ⟨_, rfl, h⟩⟩
def rd_ask_worth (E : DX) : DS := (dIfS (dNot (dTest (dCallX sp_is_number [] (XDE E) (dCons (dVar 0) (dCons (dC (.int 0)) (dCons (dC (.int 1000000)) dNil)))))) (dRaise (XDE E) "NoWorth") dNext)
theorem read_ask_worth : ∀ (a0 : D) (μ : Mem) (Q : QM) (E : DX), sp_ask_worth [a0] μ Q E → rd_ask_worth E ⟨fun _ μ2 => Q .non μ2, Q, fun _ _ => False, fun _ _ => False⟩ [.val a0] μ := by
  rintro _ μ Q E ⟨_, e, k, hk, k1, k2⟩
  cases e
  unfold rd_ask_worth
  walk_at "go"
  refine ⟨0, 1000000, k, rfl, rfl, hk, ?_⟩
  walk_at "au"
  · exact k2 (by assumption)
  · exact k1 (by assumption)
theorem c_ask_worth (T : Txt K mg) : Cal P w K mg base 2 "ask_worth" ["worth"] [] sp_ask_worth := by
  refine cal_of T.d_ask_worth sc_ask_worth (fun ds μ Q E h => by obtain ⟨_, rfl, _⟩ := h; rfl) (fun _ _ _ _ _ _ us hl => match us, hl with | [_], _ => rfl) (fun f Z cdv A outer s H _ E hr M hcd =>
      ⟨_, (ss_one (s_if (t_not (t_valP (d_callX 0 (c_is_number T) (by decide) dfl0 (hr.mono (by decide)) M (a_cons (d_var 0) (a_cons d_int (a_cons (d_globI rfl T.g_TOP.choose_spec ⟨_, rfl⟩) a_nil))))))
      (ss_one (s_raise M T.ec_NoWorth))
      ss_nil))⟩)
    (fun ds μ Q E h => ?_) (rd := rd_ask_worth)
  obtain ⟨b0, e, h⟩ := id h
  subst e
  exact read_ask_worth b0 μ Q E (by assumption)
/-! ### Kind.counted: 0 self, 1 weight, 2 worth -/
abbrev N_Kind_counted : List Str := ["self", "weight", "worth"]
theorem sc_Kind_counted : FnScope N_Kind_counted ["self", "weight", "worth"] (defScope s_Kind_counted) := ⟨rfl, rfl, rfl, by decide +kernel, rfl, by decide +kernel, by decide +kernel⟩
def sp_Kind_counted : DSp := Sp3 fun a b c μ Q E => ∃ k kw kv, a = kdD k ∧ 1 ≤ k.f ∧ k.f ≤ 1000 ∧ numOk 1 k.f b = some kw ∧ numOk 0 1000000 c = some kv ∧ (kw = false → E "NoWeight" none μ) ∧ (kw = true → kv = false → E "NoWorth" none μ) ∧ (kw = true → kv = true → ∃ w v, b = .int w ∧ c = .int v ∧ Q (.int (cnt k w v)) μ)
instance st_sp_Kind_counted {a b c : D} {μ : Mem} {Q : QM} {E : DX} : Step (sp_Kind_counted [a, b, c] μ Q E) (∃ k kw kv, a = kdD k ∧ 1 ≤ k.f ∧ k.f ≤ 1000 ∧ numOk 1 k.f b = some kw ∧ numOk 0 1000000 c = some kv ∧ (kw = false → E "NoWeight" none μ) ∧ (kw = true → kv = false → E "NoWorth" none μ) ∧ (kw = true → kv = true → ∃ w v, b = .int w ∧ c = .int v ∧ Q (.int (cnt k w v)) μ)) := ⟨fun h => ⟨_, _, _, rfl, h⟩⟩
def rd_Kind_counted (E : DX) : DS := (dSeq (dDrop (dMethX "Kind" "ask_weight" sp_Kind_ask_weight [] (XDE E) (dVar 0) (dCons (dVar 1) dNil)))
  (dSeq (dDrop (dCallX sp_ask_worth [] (XDE E) (dCons (dVar 2) dNil)))
  (dSeq (dIfS (dTest (dOp rdGe (dVar 1) (dFld "Kind" "least" (dVar 0)))) (dRet (dVar 2)) dNext)
  (dRet (dOp rdDiv (dOp rdMul (dVar 2) (dVar 1)) (dFld "Kind" "full" (dVar 0)))))))
theorem read_Kind_counted : ∀ (a0 a1 a2 : D) (μ : Mem) (Q : QM) (E : DX), sp_Kind_counted [a0, a1, a2] μ Q E → rd_Kind_counted E ⟨fun _ μ2 => Q .non μ2, Q, fun _ _ => False, fun _ _ => False⟩ [.val a0, .val a1, .val a2] μ := by
  rintro _ _ _ μ Q E ⟨_, _, _, e, k, kw, kv, rfl, f1, f2, hw, hv, k1, k2, k3⟩
  cases e
  unfold rd_Kind_counted
  walk_at "go"
  refine ⟨k, kw, rfl, hw, fun h1 => ?_, fun h1 => k1 h1⟩
  walk_at "go"
  refine ⟨kv, hv, fun h2 => ?_, fun h2 => k2 h1 h2⟩
  obtain ⟨w, v, rfl, rfl, kq⟩ := k3 h1 h2
  obtain ⟨_, e, w0, w1⟩ := numOk_true (hw.trans (by rw [h1]))
  cases e
  obtain ⟨_, e, v0, v1⟩ := numOk_true (hv.trans (by rw [h2]))
  cases e
  walk_at "go"
  unfold cnt at kq
  refine ite_d (fun h => ?_) (fun h => ?_)
  · walk_at "go"
    rw [if_pos h] at kq
    exact kq
  · walk_at "go"
    rw [if_neg h] at kq
    exact kq
theorem c_Kind_counted (T : Txt K mg) : CalM P w K mg base 3 "Kind" "counted" ["self", "weight", "worth"] [] sp_Kind_counted := by
  refine calM_of T.d_Kind_counted sc_Kind_counted (fun ds μ Q E h => by obtain ⟨_, _, _, rfl, _⟩ := h; rfl) (fun _ _ _ _ _ _ us hl => match us, hl with | [_, _, _], _ => rfl) (fun f Z cdv A outer s H _ E hr M hcd =>
      ⟨_, (ss_cons (s_expr (d_methX 0 (c_Kind_ask_weight T) (by decide) dfl0 (hr.mono (by decide)) M (d_var 0) (a_cons (d_var 1) a_nil)))
      (ss_cons (s_expr (d_callX 0 (c_ask_worth T) (by decide) dfl0 (hr.mono (by decide)) M (a_cons (d_var 2) a_nil)))
      (ss_cons (s_if (t_cmp o_ge (d_var 1) (d_fld T.cl_Kind T.na_Kind_least (d_var 0)))
      (ss_one (s_ret (d_var 2)))
      ss_nil)
      (ss_one (s_ret (d_op o_div (d_op o_mul (d_var 2) (d_var 1)) (d_fld T.cl_Kind T.na_Kind_full (d_var 0))))))))⟩)
    (fun ds μ Q E h => ?_) (rd := rd_Kind_counted)
  obtain ⟨b0, b1, b2, e, h⟩ := id h
  subst e
  exact read_Kind_counted b0 b1 b2 μ Q E (by assumption)
/-! ### law: 0 _law_script, 1 _law_draw, 2 _law_turn, 3 _law_way, 4 _law_pair_here, 5 _law_one, 6 _law_other, 7 _law_due, 8 _law_found, 9 _law_name, 10 _law_full, 11 _law_least -/
abbrev N_law : List Str := ["_law_script", "_law_draw", "_law_turn", "_law_way", "_law_pair_here", "_law_one", "_law_other", "_law_due", "_law_found", "_law_name", "_law_full", "_law_least"]
theorem sc_law : FnScope N_law ["_law_script"] (defScope s_law) := ⟨rfl, rfl, rfl, by decide +kernel, rfl, by decide +kernel, by decide +kernel⟩
def sp_law : DSp := Sp1 fun a μ Q _ => ∃ ns : List Int, a = .scr (ns.map .int) ∧ ns.length ≤ 63 ∧ ∀ μ', Q (.bl true) μ'
theorem law_start (ns : List Int) (h : ns.length ≤ 63) : sp_law [.scr (ns.map .int)] (fun _ => none) (fun d _ => d = .bl true) X0 := ⟨_, rfl, ns, rfl, h, fun _ => rfl⟩
instance st_sp_law {a : D} {μ : Mem} {Q : QM} {u3 : DX} : Step (sp_law [a] μ Q u3) (∃ ns : List Int, a = .scr (ns.map .int) ∧ ns.length ≤ 63 ∧ ∀ μ', Q (.bl true) μ') := ⟨fun h => ⟨_, rfl, h⟩⟩
def rd_law (E : DX) : DS := (dSeq (dSet 1 (dDrwNew (dCons (dCB rdList (dCons (dVar 0) dNil)) (dCons (dC (.int 0)) dNil))))
  (dSeq (dFor (diRng1 (dCons (dCB rdMax2 (dCons (dC (.int 1)) (dCons (dCB rdMin2 (dCons (dC (.int 16)) (dCons (dCB rdLen (dCons (dVar 0) dNil)) dNil))) dNil))) dNil)) (gdName 2) (dSeq (dSet 3 (dCallX sp__law_next [] (XDE E) (dCons (dVar 1) (dCons (dC (.int 4)) dNil))))
  (dSeq (dSet 4 (dCallX sp__law_pair [] (XDE E) (dCons (dVar 1) (dCons (dVar 3) dNil))))
  (dSeq (dAsg (dIce (fLc (diAny (dVar 4)) (gdTup 3 (gdCons (gdName 9) (gdCons (gdName 10) (gdCons (gdName 11) gdNil)))) dYes (dMakeI "Kind" sp_Kind___init__ [] XD0 (dCons (dVar 9) (dCons (dVar 10) (dCons (dVar 11) dNil)))) [9, 10, 11])) (gdLst 2 (gdCons (gdName 5) (gdCons (gdName 6) gdNil))))
  (dSeq (dSet 7 (dOp rdEq (dVar 3) (dC (.int 3))))
  (dSeq (dSet 8 (dLst (dCons (dOp (rdEqO "Kind" sp_Kind___eq__) (dVar 5) (dVar 6)) (dCons (dOp (rdEqO "Kind" sp_Kind___eq__) (dVar 6) (dVar 5)) (dCons (dOp (rdInO "Kind" sp_Kind___eq__) (dVar 5) (dLst (dCons (dVar 6) dNil))) (dCons (dOp (rdEqO "Kind" sp_Kind___eq__) (dLst (dCons (dVar 5) dNil)) (dLst (dCons (dVar 6) dNil))) (dCons (dOp (rdEqO "Kind" sp_Kind___eq__) (dTup (dCons (dVar 6) (dCons (dVar 5) dNil))) (dTup (dCons (dVar 5) (dCons (dVar 6) dNil)))) dNil)))))))
  (dSeq (dIfS (dTest (dOp rdNe (dCB rdRepr (dCons (dVar 8) dNil)) (dCB rdRepr (dCons (dOp rdMul (dLst (dCons (dVar 7) dNil)) (dC (.int 5))) dNil)))) (dRet (dC (.bl false))) dNext)
  (dSeq (dIfS (dTest (dOp rdNe (dMethX "Kind" "counted" sp_Kind_counted [] (XDE E) (dVar 5) (dCons (dC (.int 1)) (dCons (dC (.int 0)) dNil))) (dC (.int 0)))) (dRet (dC (.bl false))) dNext)
  (dIfS (dTest (dOp rdNe (dCB rdRepr (dCons (dLst (dCons (dOp (rdEqO "Kind" sp_Kind___eq__) (dVar 5) (dVar 6)) (dCons (dOp (rdEqO "Kind" sp_Kind___eq__) (dVar 5) (dVar 5)) (dCons (dOp (rdInO "Kind" sp_Kind___eq__) (dVar 6) (dLst (dCons (dVar 5) (dCons (dVar 6) dNil)))) dNil)))) dNil)) (dCB rdRepr (dCons (dLst (dCons (dVar 7) (dCons (dC (.bl true)) (dCons (dC (.bl true)) dNil)))) dNil)))) (dRet (dC (.bl false))) dNext)))))))))
  (dRet (dC (.bl true)))))
theorem read_law : ∀ (a0 : D) (μ : Mem) (Q : QM) (E : DX), sp_law [a0] μ Q E → rd_law X0 ⟨fun _ μ2 => Q .non μ2, Q, fun _ _ => False, fun _ _ => False⟩ [.val a0, .no, .no, .no, .no, .no, .no, .no, .no, .no, .no, .no] μ := by
  rintro _ μ Q E ⟨_, e, ns, rfl, hl, kq⟩
  cases e
  unfold rd_law
  walk_at "go"
  refine ⟨hl, ?_⟩
  walk_at "go"
  refine for_rng (fun i δ μ' => δ = [.val (.scr (ns.map .int)), .val (.drw ns), .no, .no, .no, .no, .no, .no, .no, .no, .no, .no]) (wn rfl (by simp [Le])) (fun i δ μ' hi w => ?_) (fun δ μ' w => ?_)
  · obtain rfl := w
    walk_at "go"
    refine ⟨_, _, rfl, rfl, by decide, fun w w0 w1 => ?_⟩
    walk_at "go"
    refine ⟨ns, w, rfl, rfl, w0, w1, fun k l kk kl hd => ?_⟩
    walk_at "go"
    rw [show [rowK k, rowK l] = [k, l].map rowK from rfl]
    refine lc_map kdD rfl (Nat.le_of_ble_eq_true rfl) (fun x hx P hP => ?_) ?_
    · have ok : KdOk x := by
        simp only [List.mem_cons, List.not_mem_nil, or_false] at hx
        rcases hx with rfl | rfl
        · exact kk
        · exact kl
      walk_at "wp"
      walk_at "go"
      intro p hp
      walk_at "go"
      have ln := (name_len ok.n).2
      refine ⟨p, μ', x.n, true, rfl, rfl, rfl, by omega, numOk_int ok.f.1 ok.f.2, fun h => (by rw [ok.n] at h; cases h), fun _ h => (by cases h), fun _ _ => ⟨x.f, true, rfl, numOk_int ok.l.1 ok.l.2, fun h => (by cases h), fun _ => ⟨x.l, rfl, ?_⟩⟩⟩
      refine ice_n hp ?_
      walk_at "go"
      exact hP
    have ob : ∀ x y : Kd, KdOk x → KdOk y → OwnB "Kind" sp_Kind___eq__ (kdD x) (kdD y) (decide (x.n = y.n ∧ x.f = y.f ∧ x.l = y.l)) := fun x y hx hy => by
      refine ⟨⟨_, _, rfl, rfl, fun z hz => ?_, fun z hz => ?_, fun e => decide_eq_true ?_⟩, fun μ Q E q => ⟨_, _, rfl, x, y, rfl, rfl, name_cp hx.n, name_cp hy.n, q⟩⟩
      · simp only [List.mem_cons, List.not_mem_nil, or_false] at hz; rcases hz with rfl | rfl | rfl <;> rfl
      · simp only [List.mem_cons, List.not_mem_nil, or_false] at hz; rcases hz with rfl | rfl | rfl <;> rfl
      · simpa using e
    have o1 := ob k l kk kl
    have o2 := ob l k kl kk
    have o3 := ob k k kk kk
    have o4 := ob l l kl kl
    rw [hd] at o1
    rw [show decide (l.n = k.n ∧ l.f = k.f ∧ l.l = k.l) = decide (w = 3) by rw [← hd]; simp only [decide_eq_decide]; exact ⟨fun h => ⟨h.1.symm, h.2.1.symm, h.2.2.symm⟩, fun h => ⟨h.1.symm, h.2.1.symm, h.2.2.symm⟩⟩] at o2
    rw [decide_eq_true ⟨rfl, rfl, rfl⟩] at o3 o4
    walk_at "go"
    rw [show [k, l].map kdD = [kdD k, kdD l] from rfl]
    walk_at "go"
    generalize decide (w = 3) = b at o1 o2 ⊢
    refine ⟨_, .inl o1, ?_⟩
    walk_at "go"
    refine ⟨_, .inl o2, ?_⟩
    walk_at "go"
    have oi : ∀ {x y : Kd} {b : Bool}, OwnB "Kind" sp_Kind___eq__ (kdD y) (kdD x) b → OwnI "Kind" sp_Kind___eq__ (kdD x) [kdD y] b := fun {x y b} h => by
      cases b
      · exact .f h .n
      · exact .t h
    have os : ∀ {x y : D} {xs ys : List D} {b c : Bool}, OwnB "Kind" sp_Kind___eq__ x y b → OwnBs "Kind" sp_Kind___eq__ xs ys c → OwnBs "Kind" sp_Kind___eq__ (x :: xs) (y :: ys) (b && c) := fun {x y xs ys b c} h1 h2 => by
      cases b
      · exact .f h1
      · exact .t h1 h2
    refine ⟨_, _, rfl, oi o2, ?_⟩
    walk_at "go"
    refine ⟨b && true, .inr (.inl ⟨_, _, rfl, rfl, os o1 .nn⟩), ?_⟩
    rw [Bool.and_true]
    walk_at "go"
    refine ⟨b && (b && true), .inr (.inr ⟨_, _, rfl, rfl, os o2 (os o1 .nn)⟩), ?_⟩
    rw [Bool.and_true, Bool.and_self]
    walk_at "go"
    have ok5 : okR (.lst [.bl b, .bl b, .bl b, .bl b, .bl b]) := (okn_lst (okns_cons okn_bl (okns_cons okn_bl (okns_cons okn_bl (okns_cons okn_bl (okns_cons okn_bl okns_nil)))))).ok (by decide) (by decide)
    refine ⟨rfl, ok5, ?_⟩
    walk_at "go"
    refine i_mulL (by decide) (by decide) (Nat.le_of_ble_eq_true rfl) ?_
    rw [show (List.replicate (5 : Int).toNat [Dl.D.bl b]).flatten = [.bl b, .bl b, .bl b, .bl b, .bl b] from rfl]
    walk_at "go"
    refine ⟨rfl, ok5, ?_⟩
    walk_at "go"
    refine ite_f (by simp) ?_
    walk_at "go"
    refine ⟨k, true, true, rfl, kk.f.1, kk.f.2, numOk_int (by omega) kk.f.1, numOk_int (by decide) (by decide), fun h => (by cases h), fun _ h => (by cases h), fun _ _ => ⟨1, 0, rfl, rfl, ?_⟩⟩
    walk_at "go"
    have c0 : cnt k 1 0 = 0 := by unfold cnt; split <;> simp
    refine ite_f (by rw [c0]; rfl) ?_
    walk_at "go"
    refine ⟨_, .inl o1, ?_⟩
    walk_at "go"
    refine ⟨_, .inl o3, ?_⟩
    walk_at "go"
    refine ⟨_, true, rfl, by cases b with | true => exact .t o1 | false => exact .f o1 (.t o4), ?_⟩
    walk_at "go"
    have ok3 : okR (.lst [.bl b, .bl true, .bl true]) := (okn_lst (okns_cons okn_bl (okns_cons okn_bl (okns_cons okn_bl okns_nil)))).ok (by decide) (by decide)
    refine ⟨rfl, ok3, ?_⟩
    generalize hz : shownD (.lst [.bl b, .bl true, .bl true]) = zz
    walk_at "go"
    refine ⟨rfl, ok3, ?_⟩
    rw [hz]
    walk_at "go"
    refine ite_f (by simp) ?_
    walk_at "go"
    exact wn rfl (by simp [Le])
  obtain rfl := w
  walk_at "go"
  exact kq _
theorem c_law (T : Txt K mg) : Cal0 P w K mg base 5 "law" ["_law_script"] sp_law := by
  refine cal0_of T.d_law sc_law (fun ds μ Q E h => by obtain ⟨_, rfl, _⟩ := h; rfl) (fun _ _ _ _ _ _ us hl => match us, hl with | [_], _ => rfl) (fun f Z cdv A outer s H _ hr M hcd =>
      ⟨_, (ss_cons (s_set (i := 1) sc_law.nd (d_drwNew (a_cons (d_callTy c_list rfl T.b_list (by decide +kernel) (a_cons (d_var 0) a_nil)) (a_cons d_int a_nil))))
      (ss_cons (s_for M.ow rfl (i_range1 rfl T.b_range (a_cons (d_callB (c_max2 rfl) rfl T.b_max boot_max (a_cons d_int (a_cons (d_callB (c_min2 rfl) rfl T.b_min (by decide +kernel) (a_cons d_int (a_cons (d_callB c_len rfl T.b_len PySem.boot_len (a_cons (d_var 0) a_nil)) a_nil))) a_nil))) a_nil)) (g_name (i := 2) sc_law.nd)
      (ss_cons (s_set (i := 3) sc_law.nd (d_callX 0 (c__law_next T) (by decide) dfl0 (hr.mono (by decide)) M (a_cons (d_var 1) (a_cons d_int a_nil))))
      (ss_cons (s_set (i := 4) sc_law.nd (d_callX 0 (c__law_pair T) (by decide) dfl0 (hr.mono (by decide)) M (a_cons (d_var 1) (a_cons (d_var 3) a_nil))))
      (ss_cons (s_asg (d_ice (f_lc (own := [("_law_name", 9), ("_law_full", 10), ("_law_least", 11)]) rfl sc_law.nd (go_tup (gos_cons (go_name (by decide)) (gos_cons (go_name (by decide)) (gos_cons (go_name (by decide)) gos_nil gm_name gms_nil) gm_name (gms_cons gm_name gms_nil)) gm_name (gms_cons gm_name (gms_cons gm_name gms_nil)))) (i_any (d_var 4)) (blkOk_by (N := N_law) (sc := defScope s_law) (by decide +kernel)) (fun _ _ _ _ _ => (g_tupP rfl (gs_consP (g_name (i := 9) sc_law.nd) (gs_consP (g_name (i := 10) sc_law.nd) (gs_consP (g_name (i := 11) sc_law.nd) gs_nil))))) (fun _ _ _ _ _ => ts_nil) (fun _ _ _ _ _ => (d_makeI 0 (c_Kind___init__ T) (by decide) dfl0 (hr.mono (by decide)) (md_blk M.gd) (a_cons (d_var 9) (a_cons (d_var 10) (a_cons (d_var 11) a_nil))))))) (g_lstP rfl (gs_consP (g_name (i := 5) sc_law.nd) (gs_consP (g_name (i := 6) sc_law.nd) gs_nil))))
      (ss_cons (s_set (i := 7) sc_law.nd (d_cmp (o_eq hr.units) (d_var 3) d_int))
      (ss_cons (s_set (i := 8) sc_law.nd (d_lst (a_cons (d_cmp (o_eqO (c_Kind___eq__ T) (hr.mono (by decide)) M.gd) (d_var 5) (d_var 6)) (a_cons (d_cmp (o_eqO (c_Kind___eq__ T) (hr.mono (by decide)) M.gd) (d_var 6) (d_var 5)) (a_cons (d_cmp (o_inO (c_Kind___eq__ T) (hr.mono (by decide)) M.gd) (d_var 5) (d_lst (a_cons (d_var 6) a_nil))) (a_cons (d_cmp (o_eqO (c_Kind___eq__ T) (hr.mono (by decide)) M.gd) (d_lst (a_cons (d_var 5) a_nil)) (d_lst (a_cons (d_var 6) a_nil))) (a_cons (d_cmp (o_eqO (c_Kind___eq__ T) (hr.mono (by decide)) M.gd) (d_tup (a_cons (d_var 6) (a_cons (d_var 5) a_nil))) (d_tup (a_cons (d_var 5) (a_cons (d_var 6) a_nil)))) a_nil)))))))
      (ss_cons (s_if (t_cmp (o_ne hr.units) (d_callB (c_repr M.gd (rm80 hr)) rfl T.b_repr (by decide +kernel) (a_cons (d_var 8) a_nil)) (d_callB (c_repr M.gd (rm80 hr)) rfl T.b_repr (by decide +kernel) (a_cons (d_op o_mul (d_lst (a_cons (d_var 7) a_nil)) d_int) a_nil)))
      (ss_one (s_ret d_bl))
      ss_nil)
      (ss_cons (s_if (t_cmp (o_ne hr.units) (d_methX 0 (c_Kind_counted T) (by decide) dfl0 (hr.mono (by decide)) M (d_var 5) (a_cons d_int (a_cons d_int a_nil))) d_int)
      (ss_one (s_ret d_bl))
      ss_nil)
      (ss_one (s_if (t_cmp (o_ne hr.units) (d_callB (c_repr M.gd (rm80 hr)) rfl T.b_repr (by decide +kernel) (a_cons (d_lst (a_cons (d_cmp (o_eqO (c_Kind___eq__ T) (hr.mono (by decide)) M.gd) (d_var 5) (d_var 6)) (a_cons (d_cmp (o_eqO (c_Kind___eq__ T) (hr.mono (by decide)) M.gd) (d_var 5) (d_var 5)) (a_cons (d_cmp (o_inO (c_Kind___eq__ T) (hr.mono (by decide)) M.gd) (d_var 6) (d_lst (a_cons (d_var 5) (a_cons (d_var 6) a_nil)))) a_nil)))) a_nil)) (d_callB (c_repr M.gd (rm80 hr)) rfl T.b_repr (by decide +kernel) (a_cons (d_lst (a_cons (d_var 7) (a_cons d_bl (a_cons d_bl a_nil)))) a_nil)))
      (ss_one (s_ret d_bl))
      ss_nil))))))))))
      (ss_one (s_ret d_bl))))⟩)
    (fun ds μ Q E h => ?_) (rd := rd_law)
  obtain ⟨b0, e, h⟩ := id h
  subst e
  exact read_law b0 μ Q E (by assumption)
theorem facts {P : Program} {w : World} {K : PySem.W.Frag} {h : Heap} {mg : Str → Option Value} {f : Addr} (X : K.In h) (G : h.Ns mainGlobals mg) (hfa : mg ("law" : Str) = some (.ref f)) (c : He.SaysD fa fn K) (cx : ex K = true) :
    ∃ fd : FuncData, (∀ (s : Shared) (v : Value), BindsTo s fd ⟨[v], []⟩ [("_law_script", v)]) ∧ ∀ base : Heap, K.In base → base.Ns mainGlobals mg → FnG P w K mg base CX0 5 f fd ["_law_script"] (up K sp_law) := by
  obtain ⟨fd__law_mixed, F__law_mixed⟩ := c.def_ 0 (d := dd__law_mixed) rfl
  obtain ⟨fd__law_next, F__law_next⟩ := c.def_ 1 (d := dd__law_next) rfl
  obtain ⟨fd__law_word, F__law_word⟩ := c.def_ 2 (d := dd__law_word) rfl
  obtain ⟨fd__law_near, F__law_near⟩ := c.def_ 3 (d := dd__law_near) rfl
  obtain ⟨fd__law_pair, F__law_pair⟩ := c.def_ 4 (d := dd__law_pair) rfl
  obtain ⟨fd_is_name, F_is_name⟩ := c.def_ 5 (d := dd_is_name) rfl
  obtain ⟨fd_ask_name, F_ask_name⟩ := c.def_ 6 (d := dd_ask_name) rfl
  obtain ⟨fd_is_number, F_is_number⟩ := c.def_ 7 (d := dd_is_number) rfl
  obtain ⟨fd_Kind___init__, F_Kind___init__⟩ := c.def_ 8 (d := dd_Kind___init__) rfl
  obtain ⟨fd_Kind___eq__, F_Kind___eq__⟩ := c.def_ 9 (d := dd_Kind___eq__) rfl
  obtain ⟨fd_Kind_ask_weight, F_Kind_ask_weight⟩ := c.def_ 10 (d := dd_Kind_ask_weight) rfl
  obtain ⟨fd_ask_worth, F_ask_worth⟩ := c.def_ 11 (d := dd_ask_worth) rfl
  obtain ⟨fd_Kind_counted, F_Kind_counted⟩ := c.def_ 12 (d := dd_Kind_counted) rfl
  obtain ⟨fd_law, F_law⟩ := c.def_ 13 (d := dd_law) rfl
  have T : Txt K mg := { d__law_mixed := ⟨_, fd__law_mixed, F__law_mixed, He.glo_ok X G (c.fact 0 (f := .glo "_law_mixed") rfl)⟩, d__law_next := ⟨_, fd__law_next, F__law_next, He.glo_ok X G (c.fact 1 (f := .glo "_law_next") rfl)⟩, d__law_word := ⟨_, fd__law_word, F__law_word, He.glo_ok X G (c.fact 2 (f := .glo "_law_word") rfl)⟩, d__law_near := ⟨_, fd__law_near, F__law_near, He.glo_ok X G (c.fact 3 (f := .glo "_law_near") rfl)⟩, d__law_pair := ⟨_, fd__law_pair, F__law_pair, He.glo_ok X G (c.fact 4 (f := .glo "_law_pair") rfl)⟩, d_is_name := ⟨_, fd_is_name, F_is_name, He.glo_ok X G (c.fact 5 (f := .glo "is_name") rfl)⟩, d_ask_name := ⟨_, fd_ask_name, F_ask_name, He.glo_ok X G (c.fact 6 (f := .glo "ask_name") rfl)⟩, d_is_number := ⟨_, fd_is_number, F_is_number, He.glo_ok X G (c.fact 7 (f := .glo "is_number") rfl)⟩, d_ask_worth := ⟨_, fd_ask_worth, F_ask_worth, He.glo_ok X G (c.fact 8 (f := .glo "ask_worth") rfl)⟩, d_law := ⟨_, fd_law, F_law, He.glo_ok X G (c.fact 9 (f := .glo "law") rfl)⟩, d_Kind___eq__ := ⟨_, fd_Kind___eq__, F_Kind___eq__, He.meth_ok (c.fact 27 (f := .meth "Kind" "__eq__") rfl), He.cls_ok (c.fact 23 (f := .cls "Kind") rfl)⟩, d_Kind_ask_weight := ⟨_, fd_Kind_ask_weight, F_Kind_ask_weight, He.meth_ok (c.fact 28 (f := .meth "Kind" "ask_weight") rfl), He.cls_ok (c.fact 23 (f := .cls "Kind") rfl)⟩, d_Kind_counted := ⟨_, fd_Kind_counted, F_Kind_counted, He.meth_ok (c.fact 29 (f := .meth "Kind" "counted") rfl), He.cls_ok (c.fact 23 (f := .cls "Kind") rfl)⟩, d_Kind___init__ := ⟨_, fd_Kind___init__, F_Kind___init__, He.mkr_ok (c.fact 30 (f := .mkr "Kind") rfl), He.glo_ok X G (c.fact 31 (f := .glo "Kind") rfl)⟩, b_all := He.free_ok X G (c.fact 10 (f := .free "all") rfl), b_bool := He.free_ok X G (c.fact 11 (f := .free "bool") rfl), b_int := He.free_ok X G (c.fact 12 (f := .free "int") rfl), b_isinstance := He.free_ok X G (c.fact 13 (f := .free "isinstance") rfl), b_len := He.free_ok X G (c.fact 14 (f := .free "len") rfl), b_list := He.free_ok X G (c.fact 15 (f := .free "list") rfl), b_max := He.free_ok X G (c.fact 16 (f := .free "max") rfl), b_min := He.free_ok X G (c.fact 17 (f := .free "min") rfl), b_range := He.free_ok X G (c.fact 18 (f := .free "range") rfl), b_repr := He.free_ok X G (c.fact 19 (f := .free "repr") rfl), b_str := He.free_ok X G (c.fact 20 (f := .free "str") rfl), g_MOST_WEIGHT := He.int_ok X G (c.fact 21 (f := .int "MOST_WEIGHT" 1000) rfl), g_TOP := He.int_ok X G (c.fact 22 (f := .int "TOP" 1000000) rfl), cl_Kind := He.cls_ok (c.fact 23 (f := .cls "Kind") rfl), na_Kind_full := He.noat_ok (c.fact 24 (f := .noat "Kind" "full") rfl), na_Kind_least := He.noat_ok (c.fact 25 (f := .noat "Kind" "least") rfl), na_Kind_name := He.noat_ok (c.fact 26 (f := .noat "Kind" "name") rfl), ec_NoName := ec_of (c.fact 35 (f := .exc "NoName") rfl) (He.glo_ok X G (c.fact 32 (f := .glo "NoName") rfl)), ec_NoWeight := ec_of (c.fact 36 (f := .exc "NoWeight") rfl) (He.glo_ok X G (c.fact 33 (f := .glo "NoWeight") rfl)), ec_NoWorth := ec_of (c.fact 37 (f := .exc "NoWorth") rfl) (He.glo_ok X G (c.fact 34 (f := .glo "NoWorth") rfl)), gc_Kind := He.glo_ok X G (c.fact 31 (f := .glo "Kind") rfl), cs := cssB_ok (cx) }
  obtain ⟨fd, hb, hF⟩ := law_facts (x := "_law_script") hfa (fun base => c_law (P := P) (w := w) (base := base) T) h
  exact ⟨fd, hb, fun base _ _ => hF base⟩
theorem at_start {K : PySem.W.Frag} {H : Hp} {a : Addr} {ns : List Int} (hl : ns.length ≤ 63) (hT : ∀ p ∈ tabC K, H p.2 = some (.tbl #[])) (hS : SqL K H a (ns.map V.int)) : up K sp_law [.ref a] H (fun v _ => v = .bl true) fun _ _ _ => False := at_script hl hT hS (law_start ns hl)
end Pf
open PySem PySem.W PySem.Calls PyProof.Rows
set_option maxRecDepth 100000 in
set_option maxHeartbeats 0 in
theorem PySem.Challenge.cw_callcoin_k33_kinds_are_equal_holds : PySem.Challenge.rw_callcoin_k33_kinds_are_equal.Holds := by
  w_on; o_law
  refine HandSHeadRun.head_any (r := OpenLaw.row PySem.Challenge.rw_callcoin_k33_kinds_are_equal) (q := view (OpenLaw.row PySem.Challenge.rw_callcoin_k33_kinds_are_equal).prog [20]) (H := Pf.hk) (ob := Pf.ob) (M := 100000) (loose := Pf.loose) (d := HandSHeadRun.topDef (OpenLaw.row PySem.Challenge.rw_callcoin_k33_kinds_are_equal).prog 20) (kwd := []) Pf.ob_eq
    (by kernel_rfl) (fun s => by kernel_rfl) Pf.run (by kernel_rfl) (by kernel_rfl) (by kernel_rfl) (by rfl) (by first | assumption | decide +kernel) (by decide +kernel) ⟨rfl, rfl, rfl, rfl, rfl, by decide +kernel⟩ ?hw ?hc
  case hw => w_witness2
  case hc =>
    refine Dl.walkG (l := PySem.Challenge.rw_callcoin_k33_kinds_are_equal) (n := 63) (k := 5) (x := "_law_script") (CX := L2.CX0) rfl (by decide) (by kernel_rfl) ⟨rfl, by decide, by decide⟩ ?F (fun _ _ _ _ z => z)
    intro w mg fa h Y G hmg0
    obtain ⟨K, KX, c, cx, hT, nT⟩ := Y
    have hmg : mg ("law" : PySem.Str) = some (.ref fa) := by
      have e : (HandSHeadRun.topDef (OpenLaw.row PySem.Challenge.rw_callcoin_k33_kinds_are_equal).prog 20).name = ("law" : PySem.Str) := by kernel_rfl
      rw [← e]
      exact hmg0
    obtain ⟨fd, hb, hF⟩ := Pf.facts (P := (PySem.Challenge.rw_callcoin_k33_kinds_are_equal).prog) (w := w) KX G hmg c cx
    exact ⟨K, fd, Dl.up K Pf.sp_law, KX, hT, nT, hb, fun H a ns hl hT hS => Pf.at_start hl hT hS, hF⟩

