import PyProof.Rows.All
import HandS.Head0
import HandS.Head1
import HandS.Head2
import HandS.HeadHook1
import HandS.HeadHook2
import HandS.ExcField
import Wide.All
import OpenK.AllK
import Wide.FinOn
import HandS.ForMost
import HandS.ForExc
import HandS.CallSlots
import HandS.Defaults
import HandS.More
import HandS.ExcValue
import HandS.ExcInit
import HandS.ExcIs
import HandS.IsInst
import HandS.Lambda
import HandS.TupAny
import HandS.Wide
import HandS.Style
import HandS.TupLen
import PyProof.ReprRoads
import HandS.Ends
import HandS.HeadEnd
import HandS.Property
import HandS.MakeKw
import KE.KExcIs
import PyProof.TupleOfSeq
import HandS.Iter
import KE.GoesEnum
import HandS.Star
import HandS.DictComp
import PyProof.DictDisplay
import PyProof.DictUpdate
import KE.KDictOf
import PyProof.MeetsSeq2
import HandS.Finally
import HandS.Comp
import PyProof.CompUse
import HandS.RaiseMore
import PyProof.StrLawsRepr
import HandS.DictTup
import HandS.Sort
import PyProof.SumWalkG
import HandS.Zip
import KE.KOpsOwn
import HandS.SlotsOwn
import KE.KSortTupAny
import HandS.ListItems
import HandS.SetFor
import HandS.Strs
import PyProof.Rows.TupDisplay
import HandS.OwnEq
import HandS.DictEq
import HandS.HeadHook4
import HandS.TryOnly
import HandS.EndTab
import HandS.NestedK
import HandS.Conv
import PyProof.NeKinds
import PyProof.InstNe
import KE.KDictZip
import PySem.Challenge.RW_worthlevels_k03_tasks_made
set_option Elab.async false
set_option linter.all false
set_option maxRecDepth 100000
set_option maxHeartbeats 4000000
/-! W0: what is asked at the end of the top. -/
namespace WL
open PySem PySem.Spec PyProof.Rows L2
def tyNs : List String := ["NoneType", "bool", "int", "str", "tuple", "list", "dict"]
def oexB (K : PySem.W.Frag) (C : Addr) : Bool := match K.lookup C with
  | some ⟨.type "type", _, .cls cd, sl⟩ => (match cd.mro, sl.toList with
    | .ref C' :: bm, [_, _, _, _, some (.builtin n), _] => C' == C && n == "ValueError.__new__" && !cd.hasDel && cd.hasDict && PySem.HandSPX.refsVE bm
    | _, _ => false)
  | _ => false
def errB (K : PySem.W.Frag) (C : Addr) : Bool := oexB K C && (decide (PySem.W.findIn K (.ref C) "__setattr__" = some (some (.builtin "object.__setattr__"))) && (decide (PySem.W.typeIn K (.ref C) = some (.type "type")) && (PySem.W.keepIn K (.ref C) && (xfB K C &&
  (decide (PySem.W.findIn K (.ref C) "__class__" = some (some (.builtin "object.__class__"))) && (decide (PySem.W.specialIn K (.builtin "object.__class__") "__get__" = some (some (.builtin "getset_descriptor.__get__"))) && (decide (PySem.W.takesIn K (.builtin "object.__class__") = some true) && decide (PySem.W.mroIn K C (.type "object") = some true))))))))
abbrev AlX : Type := Bool × He.AlD
def obsX (fx : List (PySem.W.Frag → Bool)) (fa : List He.Fa) (fn : List He.DefD) (K : PySem.W.Frag) : AlX := (fx.all fun f => f K, He.obsD fa fn K)
def SaysX (fx : List (PySem.W.Frag → Bool)) (fa : List He.Fa) (fn : List He.DefD) (K : PySem.W.Frag) : Prop := obsX fx fa fn K = (true, He.valD fn)
/-- the facts of ErTb -/
def erOne (K : PySem.W.Frag) (ns : List (Str × Option Str)) (c : Nat) (p : Str × Option Str) : Bool :=
  He.eqO (PySem.W.nsIn K mainGlobals p.1) (some (some (.ref (He.ga K p.1)))) && (errB K (He.ga K p.1) && (decide (PySem.W.kitOne K (.ref (He.ga K p.1)) (.type "ValueError") = some true) && ((match p.2 with
    | none => PySem.W.excIn K (He.ga K p.1) He.veBase "ValueError.__new__"
    | some f => decide (PySem.W.findIn K (.ref (He.ga K p.1)) f = some none)) && (List.range ns.length).all fun d => match ns[d]? with
      | some q => decide (PySem.W.kitOne K (.ref (He.ga K p.1)) (.ref (He.ga K q.1)) = some (c == d || d == 0))
      | none => false)))
def erTbB (ns : List (Str × Option Str)) (K : PySem.W.Frag) : Bool := (List.range ns.length).all fun c => match ns[c]? with
  | some p => erOne K ns c p
  | none => false
/-- the error classes' addresses -/
def ecOf (K : PySem.W.Frag) (ns : List (Str × Option Str)) (c : Nat) : Option (Addr × Option Str) := ns[c]?.map fun p => (He.ga K p.1, p.2)
def clOne (cs : List (Str × List Str)) (fs : List Str) (K : PySem.W.Frag) (c : Nat) (p : Str × List Str) : Bool :=
  He.eqO (PySem.W.nsIn K mainGlobals p.1) (some (some (.ref (He.ga K p.1)))) && (decide p.2.Nodup && ((He.Fa.cls p.1).ok K && ((decide (PySem.W.findIn K (.ref (He.ga K p.1)) "__class__" = some (some (.builtin "object.__class__"))) &&
    (decide (PySem.W.specialIn K (.builtin "object.__class__") "__get__" = some (some (.builtin "getset_descriptor.__get__"))) && (decide (PySem.W.takesIn K (.builtin "object.__class__") = some true) && decide (PySem.W.mroIn K (He.ga K p.1) (.type "object") = some true)))) &&
    ((fs.all fun f => (He.Fa.noat p.1 f).ok K) && ((tyNs.all fun t => decide (PySem.W.kitOne K (.type t) (.ref (He.ga K p.1)) = some false)) && (List.range cs.length).all fun d => match cs[d]? with
      | some q => decide (PySem.W.kitOne K (.ref (He.ga K p.1)) (.ref (He.ga K q.1)) = some (c == d))
      | none => false)))))
def clTbB (cs : List (Str × List Str)) (fs : List Str) (K : PySem.W.Frag) : Bool := (List.range cs.length).all fun c => match cs[c]? with
  | some p => clOne cs fs K c p
  | none => false
def ctOf (K : PySem.W.Frag) (cs : List (Str × List Str)) (c : Nat) : Option (Addr × List Str) := cs[c]?.map fun p => (He.ga K p.1, p.2)
/-- the getter of the property nm of the class x -/
def pga (K : PySem.W.Frag) (x nm : Str) : Addr := match PySem.W.recIn K (He.ma K (He.ga K x) nm) "property" with
  | some (.ref g :: _) => g
  | _ => 0
def propB (x nm : Str) (K : PySem.W.Frag) : Bool := He.eqO (PySem.W.findIn K (.ref (He.ga K x)) nm) (some (some (.ref (He.ma K (He.ga K x) nm)))) && (decide (PySem.W.specialIn K (.ref (He.ma K (He.ga K x) nm)) "__get__" = some (some (.builtin "property.__get__"))) &&
  (decide (PySem.W.takesIn K (.ref (He.ma K (He.ga K x) nm)) = some true) && (match PySem.W.recIn K (He.ma K (He.ga K x) nm) "property" with
    | some (.ref g :: _) => true
    | _ => false)))
def fnWA (K : PySem.W.Frag) (a : Addr) : He.FnW := match K.lookup a with
  | some ⟨_, _, .func fd, _⟩ => some (fd.name, fd.qualname, fd.params, fd.body, fd.scope, fd.globals, fd.closure, fd.builtins)
  | _ => none
def okA (K : PySem.W.Frag) (a : Addr) (d : He.DefD) : Bool := PySem.W.keepIn K (.ref a) && (match K.lookup a with
  | some ⟨_, _, .func fd, _⟩ => PySem.W.codeIn K fd.code d.qual && (He.dflB K fd.defaults (d.dvs K) && He.kwdB K fd.kwdefaults (d.kws K))
  | _ => false)
abbrev AlY : Type := List He.FnW × AlX
abbrev Fp : Type := (PySem.W.Frag → Addr) × He.DefD
def fpOk (fp : List Fp) (K : PySem.W.Frag) : Bool := fp.all fun p => okA K (p.1 K) p.2
def obsY (fx : List (PySem.W.Frag → Bool)) (fp : List Fp) (fa : List He.Fa) (fn : List He.DefD) (K : PySem.W.Frag) : AlY := (fp.map fun p => fnWA K (p.1 K), obsX (fpOk fp :: fx) fa fn K)
def valY (fp : List Fp) (fn : List He.DefD) : AlY := (fp.map fun p => p.2.val, (true, He.valD fn))
def SaysY (fx : List (PySem.W.Frag → Bool)) (fp : List Fp) (fa : List He.Fa) (fn : List He.DefD) (K : PySem.W.Frag) : Prop := obsY fx fp fa fn K = valY fp fn
/-- what is asked in parts, put together -/
theorem obsY_app {fx : List (PySem.W.Frag → Bool)} {fp : List Fp} {fa : List He.Fa} {f1 f2 : List He.DefD} {K : PySem.W.Frag} (h1 : obsY fx fp fa f1 K = valY fp f1) (h2 : obsY [] [] [] f2 K = valY [] f2) : obsY fx fp fa (f1 ++ f2) K = valY fp (f1 ++ f2) := by
  simp only [obsY, valY, obsX, He.obsD, He.valD, Prod.mk.injEq, List.all_append, List.map_append, Bool.and_eq_true, List.all_nil, List.map_nil, true_and] at h1 h2 ⊢
  obtain ⟨a, b, ⟨c, d⟩, e⟩ := h1
  obtain ⟨_, g, j⟩ := h2
  exact ⟨a, b, ⟨c, d, g⟩, by rw [e, j]⟩
end WL

/-! W1: what is asked at the end of the top, with the makers' tables of code objects. -/
namespace WL
open PySem PySem.Spec PyProof.Rows L2
abbrev AlZ : Type := AlY × Bool
def obsYT (n : Nat) (fx : List (PySem.W.Frag → Bool)) (fp : List Fp) (fa : List He.Fa) (fn : List He.DefD) (g : Addr → Option Obj) : AlY := obsY fx fp fa fn (He.frT g (He.asD g n))
def tabsT (n : Nat) (tf : List He.Defn) (g : Addr → Option Obj) : Bool := He.tabsB g tf (He.frT g (He.asD g n))
def obsZG (n : Nat) (fx : List (PySem.W.Frag → Bool)) (fp : List Fp) (fa : List He.Fa) (fn : List He.DefD) (tf : List He.Defn) (g : Addr → Option Obj) : AlZ := (obsYT n fx fp fa fn g, tabsT n tf g)
structure SaysZ (fx : List (PySem.W.Frag → Bool)) (fp : List Fp) (fa : List He.Fa) (fn : List He.DefD) (tf : List He.Defn) (h : Heap) (K : PySem.W.Frag) : Prop where
  y : SaysY fx fp fa fn K
  hd : ∀ p ∈ tf, PySem.W.codeHdIn K (He.cT K p).1 (He.cT K p).2 = true
  out : ∀ p ∈ tf, K.lookup (He.cT K p).2 = none
  none_ : ∀ p ∈ tf, h.get? (He.cT K p).2 = some { cls := .none, data := .fields #[] }
theorem saysZ_of {n : Nat} {fx : List (PySem.W.Frag → Bool)} {fp : List Fp} {fa : List He.Fa} {fn : List He.DefD} {tf : List He.Defn} {h : Heap} (e : obsZG n fx fp fa fn tf h.get? = (valY fp fn, true)) : SaysZ fx fp fa fn tf h (He.frT h.get? (He.asD h.get? n)) := by
  have e1 : obsY fx fp fa fn (He.frT h.get? (He.asD h.get? n)) = valY fp fn := congrArg Prod.fst e
  have e2 : He.tabsB h.get? tf (He.frT h.get? (He.asD h.get? n)) = true := congrArg Prod.snd e
  generalize hK : He.frT h.get? (He.asD h.get? n) = K at e1 e2
  have each : ∀ p ∈ tf, PySem.W.codeHdIn K (He.cT K p).1 (He.cT K p).2 = true ∧ ∃ o, h.get? (He.cT K p).2 = some o ∧ He.emptyTab o = true := fun p hp => by
    have z := List.all_eq_true.mp e2 p hp
    rw [Bool.and_eq_true] at z
    refine ⟨z.1, ?_⟩
    have z2 := z.2
    cases q : h.get? (He.cT K p).2 with
    | none => rw [q] at z2; cases z2
    | some o => rw [q] at z2; exact ⟨o, rfl, z2⟩
  exact ⟨e1, fun p hp => (each p hp).1, fun p hp => by
    obtain ⟨_, o, q, z⟩ := each p hp
    have := He.frT_none (as := He.asD h.get? n) q z
    rw [hK] at this
    exact this, fun p hp => by
    obtain ⟨_, o, q, z⟩ := each p hp
    rw [q, He.emptyTab_eq z]⟩
def hookZ (n : Nat) (fx : List (PySem.W.Frag → Bool)) (fp : List Fp) (fa : List He.Fa) (fn : List He.DefD) (tf : List He.Defn) : PySem.W.Hook where
  α := AlZ
  obs := fun s => obsZG n fx fp fa fn tf s.heap.get?
  val := fun _ => (valY fp fn, true)
  says := fun _ h => ∃ K : PySem.W.Frag, K.In h ∧ SaysZ fx fp fa fn tf h K
  of := fun _ _ e => ⟨_, He.frT_in, saysZ_of e⟩
  keeps := fun _ _ _ ⟨K, hK, c⟩ k => ⟨K, PySem.W.Frag.In.keeps hK k, ⟨c.y, c.hd, c.out, fun p hp => k _ _ (c.none_ p hp)⟩⟩
theorem obsZG_eq {n : Nat} {fx : List (PySem.W.Frag → Bool)} {fp : List Fp} {fa : List He.Fa} {fn : List He.DefD} {tf : List He.Defn} {g : Addr → Option Obj} {s : Shared} (h : ∀ a, g a = s.heap.get? a) : obsZG n fx fp fa fn tf g = (hookZ n fx fp fa fn tf).obs s := by
  have e : g = s.heap.get? := funext h
  rw [e] <;> rfl
theorem run_joinZ {σ β : Type} {E : Option σ} {gt : σ → Addr → Option Obj} {f : σ → Bool} {g : σ → β} {b : β} {n : Nat} {fx : List (PySem.W.Frag → Bool)} {fp : List Fp} {fa : List He.Fa} {fn f1 f2 : List He.DefD} {tf : List He.Defn} (e : fn = f1 ++ f2) (h1 : E.map f = some true) (h2 : E.map g = some b)
    (h3 : E.map (fun s => obsYT n fx fp fa f1 (gt s)) = some (valY fp f1)) (h4 : E.map (fun s => obsYT n [] [] [] f2 (gt s)) = some (valY [] f2)) (h5 : E.map (fun s => tabsT n tf (gt s)) = some true) : E.map (fun s => (f s, g s, obsZG n fx fp fa fn tf (gt s))) = some (true, b, (valY fp fn, true)) := by
  subst e
  cases E with
  | none => cases h1
  | some s =>
    have h1 : f s = true := Option.some.inj h1
    have h2 : g s = b := Option.some.inj h2
    have h3 : obsYT n fx fp fa f1 (gt s) = valY fp f1 := Option.some.inj h3
    have h4 : obsYT n [] [] [] f2 (gt s) = valY [] f2 := Option.some.inj h4
    have h5 : tabsT n tf (gt s) = true := Option.some.inj h5
    show some (f s, g s, (obsYT n fx fp fa (f1 ++ f2) (gt s), tabsT n tf (gt s))) = _
    rw [h1, h2, h5]
    unfold obsYT at h3 h4 ⊢
    rw [obsY_app h3 h4]
/-- None is of none of the error classes -/
def noneB (ns : List (Str × Option Str)) (K : PySem.W.Frag) : Bool := ns.all fun p => decide (PySem.W.kitOne K (.type "NoneType") (.ref (He.ga K p.1)) = some false)
/-- the class has no own != -/
def neB (x : Str) (K : PySem.W.Frag) : Bool := decide (PySem.W.findIn K (.ref (He.ga K x)) "__ne__" = some (some (.builtin "object.__ne__"))) && decide (PySem.W.mroIn K (He.ga K x) (.type "object") = some true)
/-- the errors of the text stand under the class b -/
def exmB (ns : List (Str × Option Str)) (b : Str) (K : PySem.W.Frag) : Bool := ns.all fun p => decide (PySem.W.exmOne K (.ref (He.ga K p.1)) (.ref (He.ga K b)) = some true)
/-- the makers' tables are different ones -/
def apartB (tf : List He.Defn) (K : PySem.W.Frag) : Bool := decide (tf.map fun p => (He.cT K p).2).Nodup
/-- the object is an empty tuple -/
def tup0B (a : PySem.W.Frag → Addr) (K : PySem.W.Frag) : Bool := match K.lookup (a K) with
  | some ⟨.type t, _, .seq its _, _⟩ => t == "tuple" && its.size == 0
  | _ => false
end WL

namespace K03
open PySem PySem.Spec PyProof.Rows L2 WL
def top (i : Nat) : Stmt := PySem.Challenge.pw_worthlevels_k03_tasks_made.main.body.getD i (.Pass ⟨0, 0, 0, 0⟩)
abbrev clsNs : List (Str × List Str) := [("Task", ["own_effort", "own_worth", "own_needs"])]
abbrev allFs : List Str := ["own_effort", "own_worth", "own_needs"]
abbrev tf : List He.Defn := [("_law_refused", none)]
abbrev errNs : List (Str × Option Str) := [("LevelError", none), ("BadTask", some "part"), ("BadBacklog", some "name"), ("NoTask", some "name")]
def d_is_name : He.DefD := ⟨("is_name", none), "is_name", "is_name", defArgs (top 11), defBody (top 11), defScope (top 11), [], []⟩
def d_is_number : He.DefD := ⟨("is_number", none), "is_number", "is_number", defArgs (top 12), defBody (top 12), defScope (top 12), [], []⟩
def d_is_list : He.DefD := ⟨("is_list", none), "is_list", "is_list", defArgs (top 13), defBody (top 13), defScope (top 13), [], []⟩
def d__law_begun : He.DefD := ⟨("_law_begun", none), "_law_begun", "_law_begun", defArgs (top 17), defBody (top 17), defScope (top 17), [], []⟩
def d__law_blend : He.DefD := ⟨("_law_blend", none), "_law_blend", "_law_blend", defArgs (top 18), defBody (top 18), defScope (top 18), [], []⟩
def d__law_caught : He.DefD := ⟨("_law_caught", none), "_law_caught", "_law_caught", defArgs (top 24), defBody (top 24), defScope (top 24), [], []⟩
def d__law_is_number : He.DefD := ⟨("_law_is_number", none), "_law_is_number", "_law_is_number", defArgs (top 25), defBody (top 25), defScope (top 25), [], []⟩
def d__law_is_word : He.DefD := ⟨("_law_is_word", none), "_law_is_word", "_law_is_word", defArgs (top 26), defBody (top 26), defScope (top 26), [], []⟩
def d_are_names : He.DefD := ⟨("are_names", none), "are_names", "are_names", defArgs (top 14), defBody (top 14), defScope (top 14), [], []⟩
def d__law_take : He.DefD := ⟨("_law_take", none), "_law_take", "_law_take", defArgs (top 19), defBody (top 19), defScope (top 19), [], []⟩
def d__law_due : He.DefD := ⟨("_law_due", none), "_law_due", "_law_due", defArgs (top 27), defBody (top 27), defScope (top 27), [], []⟩
def d__law_pick : He.DefD := ⟨("_law_pick", none), "_law_pick", "_law_pick", defArgs (top 20), defBody (top 20), defScope (top 20), [], []⟩
def d__law_shuffled : He.DefD := ⟨("_law_shuffled", none), "_law_shuffled", "_law_shuffled", defArgs (top 21), defBody (top 21), defScope (top 21), [], []⟩
def d__law_drawn_names : He.DefD := ⟨("_law_drawn_names", none), "_law_drawn_names", "_law_drawn_names", defArgs (top 22), defBody (top 22), defScope (top 22), [], []⟩
def d__law_numbers : He.DefD := ⟨("_law_numbers", none), "_law_numbers", "_law_numbers", defArgs (top 23), defBody (top 23), defScope (top 23), [], []⟩
def d__law_bent : He.DefD := ⟨("_law_bent", none), "_law_bent", "_law_bent", defArgs (top 28), defBody (top 28), defScope (top 28), [], []⟩
def d__law_apart_right : He.DefD := ⟨("_law_apart_right", none), "_law_apart_right", "_law_apart_right", defArgs (top 30), defBody (top 30), defScope (top 30), [], []⟩
def d__law_refused : He.DefD := ⟨("_law_refused", none), "_law_refused", "_law_refused", defArgs (top 29), defBody (top 29), defScope (top 29), [], []⟩
def d_law : He.DefD := ⟨("law", none), "law", "law", defArgs (top 31), defBody (top 31), defScope (top 31), [], []⟩
def d_BadTask : He.DefD := ⟨("BadTask", some "__init__"), "__init__", "BadTask.__init__", defArgs (inClass (top 2) 0), defBody (inClass (top 2) 0), defScope (inClass (top 2) 0), [], []⟩
def d_BadBacklog : He.DefD := ⟨("BadBacklog", some "__init__"), "__init__", "BadBacklog.__init__", defArgs (inClass (top 3) 0), defBody (inClass (top 3) 0), defScope (inClass (top 3) 0), [], []⟩
def d_NoTask : He.DefD := ⟨("NoTask", some "__init__"), "__init__", "NoTask.__init__", defArgs (inClass (top 4) 0), defBody (inClass (top 4) 0), defScope (inClass (top 4) 0), [], []⟩
def d_Task___eq__ : He.DefD := ⟨("Task", some "__eq__"), "__eq__", "Task.__eq__", defArgs (inClass (top 15) 4), defBody (inClass (top 15) 4), defScope (inClass (top 15) 4), [], []⟩
def d_Task___init__ : He.DefD := ⟨("Task", some "__init__"), "__init__", "Task.__init__", defArgs (inClass (top 15) 0), defBody (inClass (top 15) 0), defScope (inClass (top 15) 0), [.adr (He.dflAt ("Task", some "__init__") 0)], []⟩
def d_Task_effort : He.DefD := ⟨("Task", some "effort"), "effort", "Task.effort", defArgs (inClass (top 15) 1), defBody (inClass (top 15) 1), defScope (inClass (top 15) 1), [], []⟩
def d_Task_worth : He.DefD := ⟨("Task", some "worth"), "worth", "Task.worth", defArgs (inClass (top 15) 2), defBody (inClass (top 15) 2), defScope (inClass (top 15) 2), [], []⟩
def d_Task_needs : He.DefD := ⟨("Task", some "needs"), "needs", "Task.needs", defArgs (inClass (top 15) 3), defBody (inClass (top 15) 3), defScope (inClass (top 15) 3), [], []⟩
def fn : List He.DefD := [d_is_name, d_is_number, d_is_list, d__law_begun, d__law_blend, d__law_caught, d__law_is_number, d__law_is_word, d_are_names, d__law_take, d__law_due, d__law_pick, d__law_shuffled, d__law_drawn_names, d__law_numbers, d__law_bent, d__law_apart_right, d__law_refused, d_law, d_BadTask, d_BadBacklog, d_NoTask, d_Task___eq__, d_Task___init__]
def fn1 : List He.DefD := [d_is_name, d_is_number, d_is_list, d__law_begun, d__law_blend, d__law_caught, d__law_is_number, d__law_is_word, d_are_names, d__law_take, d__law_due, d__law_pick]
def fn2 : List He.DefD := [d__law_shuffled, d__law_drawn_names, d__law_numbers, d__law_bent, d__law_apart_right, d__law_refused, d_law, d_BadTask, d_BadBacklog, d_NoTask, d_Task___eq__, d_Task___init__]
def fx : List (PySem.W.Frag → Bool) := [erTbB errNs, clTbB clsNs allFs, propB "Task" "effort", propB "Task" "worth", propB "Task" "needs", neB "Task", noneB errNs, tup0B (He.dflAt ("Task", some "__init__") 0), exmB errNs "LevelError", apartB tf]
def fp : List Fp := [(fun K => pga K "Task" "effort", d_Task_effort), (fun K => pga K "Task" "worth", d_Task_worth), (fun K => pga K "Task" "needs", d_Task_needs)]
def fa1 : List He.Fa := [.glo "is_name", .glo "is_number", .glo "is_list", .glo "_law_begun", .glo "_law_blend", .glo "_law_caught", .glo "_law_is_number", .glo "_law_is_word", .glo "are_names", .glo "_law_take", .glo "_law_due", .glo "_law_pick", .glo "_law_shuffled", .glo "_law_drawn_names", .glo "_law_numbers", .glo "_law_bent", .glo "_law_apart_right", .glo "_law_refused", .glo "law", .free "all", .free "bool"]
def fa2 : List He.Fa := [.free "enumerate", .free "int", .free "isinstance", .free "len", .free "list", .free "min", .free "range", .free "repr", .free "set", .free "sorted", .free "str", .free "tuple", .str "LETTERS" "abcdefghijklmnopqrstuvwxyz", .int "LONGEST_NAME" 8, .int "MOST_EFFORT" 100, .int "MOST_TASKS" 30, .int "MOST_WORTH" 100, .meth "BadTask" "__init__", .meth "BadBacklog" "__init__", .meth "NoTask" "__init__", .meth "Task" "__eq__", .mkr "Task"]
def fa : List He.Fa := fa1 ++ fa2
end K03
namespace K03
abbrev R : PySem.W.OpenRow := PySem.W.OpenLaw.row PySem.Challenge.rw_worthlevels_k03_tasks_made
abbrev hk : PySem.W.Hook := WL.hookZ 6 fx fp fa fn tf
def ob (s : PySem.W.SharedT) : WL.AlZ := WL.obsZG 6 fx fp fa fn tf (HandSHeadRun.getT s)
theorem ob_eq (s : PySem.W.SharedT) : ob s = hk.obs s.abs := WL.obsZG_eq (HandSHeadRun.getT_eq s)
theorem runA (w : PySem.World) : ∀ os : PySem.OsState, (HandSHeadRun.endF (HandSHeadRun.stepQ (HandSHeadRun.denQ HandSHeadRun.tabQ) R.prog w) 8000 R.prog w os).map (fun s => HandSHeadRun.looksF R.prog (PySem.W.boot_heap w.params) s.abs) = some true := by
  intro os
  kernel_rfl
open PySem PySem.W PySem.Spec PyProof.Rows HandSHeadRun in
theorem runB (w : PySem.World) : ∀ os : PySem.OsState, (HandSHeadRun.endF (HandSHeadRun.stepQ (HandSHeadRun.denQ HandSHeadRun.tabQ) R.prog w) 8000 R.prog w os).map (fun s => HandSHeadRun.seenQ (PySem.W.view R.prog [31]) [("LevelError" : PySem.Str), ("BadTask" : PySem.Str), ("BadBacklog" : PySem.Str), ("NoTask" : PySem.Str), ("Task" : PySem.Str), ("is_name" : PySem.Str), ("is_number" : PySem.Str), ("is_list" : PySem.Str), ("are_names" : PySem.Str), ("_law_begun" : PySem.Str), ("_law_blend" : PySem.Str), ("_law_take" : PySem.Str), ("_law_pick" : PySem.Str), ("_law_shuffled" : PySem.Str), ("_law_drawn_names" : PySem.Str), ("_law_numbers" : PySem.Str), ("_law_caught" : PySem.Str), ("_law_is_number" : PySem.Str), ("_law_is_word" : PySem.Str), ("_law_due" : PySem.Str), ("_law_bent" : PySem.Str), ("_law_refused" : PySem.Str), ("_law_apart_right" : PySem.Str), ("LETTERS" : PySem.Str), ("LONGEST_NAME" : PySem.Str), ("MOST_TASKS" : PySem.Str), ("MOST_EFFORT" : PySem.Str), ("MOST_WORTH" : PySem.Str)] (importedModules R.prog.main.body) (fun s => xlAt (PySem.W.view R.prog [31]) [] s && recOk R.toRowW.records s) s.abs) = some (openGood (PySem.W.view R.prog [31]) [("LevelError" : PySem.Str), ("BadTask" : PySem.Str), ("BadBacklog" : PySem.Str), ("NoTask" : PySem.Str), ("Task" : PySem.Str), ("is_name" : PySem.Str), ("is_number" : PySem.Str), ("is_list" : PySem.Str), ("are_names" : PySem.Str), ("_law_begun" : PySem.Str), ("_law_blend" : PySem.Str), ("_law_take" : PySem.Str), ("_law_pick" : PySem.Str), ("_law_shuffled" : PySem.Str), ("_law_drawn_names" : PySem.Str), ("_law_numbers" : PySem.Str), ("_law_caught" : PySem.Str), ("_law_is_number" : PySem.Str), ("_law_is_word" : PySem.Str), ("_law_due" : PySem.Str), ("_law_bent" : PySem.Str), ("_law_refused" : PySem.Str), ("_law_apart_right" : PySem.Str), ("LETTERS" : PySem.Str), ("LONGEST_NAME" : PySem.Str), ("MOST_TASKS" : PySem.Str), ("MOST_EFFORT" : PySem.Str), ("MOST_WORTH" : PySem.Str)]) := by
  intro os
  kernel_rfl
theorem runC (w : PySem.World) : ∀ os : PySem.OsState, (HandSHeadRun.endF (HandSHeadRun.stepQ (HandSHeadRun.denQ HandSHeadRun.tabQ) R.prog w) 8000 R.prog w os).map (fun s => WL.obsYT 6 fx fp fa fn1 (HandSHeadRun.getT s)) = some (WL.valY fp fn1) := by
  intro os
  kernel_rfl
theorem runD (w : PySem.World) : ∀ os : PySem.OsState, (HandSHeadRun.endF (HandSHeadRun.stepQ (HandSHeadRun.denQ HandSHeadRun.tabQ) R.prog w) 8000 R.prog w os).map (fun s => WL.obsYT 6 [] [] [] fn2 (HandSHeadRun.getT s)) = some (WL.valY [] fn2) := by
  intro os
  kernel_rfl
theorem runE (w : PySem.World) : ∀ os : PySem.OsState, (HandSHeadRun.endF (HandSHeadRun.stepQ (HandSHeadRun.denQ HandSHeadRun.tabQ) R.prog w) 8000 R.prog w os).map (fun s => WL.tabsT 6 tf (HandSHeadRun.getT s)) = some true := by
  intro os
  kernel_rfl
theorem run (w : PySem.World) : HandSHeadRun.RunEq R (PySem.W.view R.prog [31]) hk ob 8000 [("LevelError" : PySem.Str), ("BadTask" : PySem.Str), ("BadBacklog" : PySem.Str), ("NoTask" : PySem.Str), ("Task" : PySem.Str), ("is_name" : PySem.Str), ("is_number" : PySem.Str), ("is_list" : PySem.Str), ("are_names" : PySem.Str), ("_law_begun" : PySem.Str), ("_law_blend" : PySem.Str), ("_law_take" : PySem.Str), ("_law_pick" : PySem.Str), ("_law_shuffled" : PySem.Str), ("_law_drawn_names" : PySem.Str), ("_law_numbers" : PySem.Str), ("_law_caught" : PySem.Str), ("_law_is_number" : PySem.Str), ("_law_is_word" : PySem.Str), ("_law_due" : PySem.Str), ("_law_bent" : PySem.Str), ("_law_refused" : PySem.Str), ("_law_apart_right" : PySem.Str), ("LETTERS" : PySem.Str), ("LONGEST_NAME" : PySem.Str), ("MOST_TASKS" : PySem.Str), ("MOST_EFFORT" : PySem.Str), ("MOST_WORTH" : PySem.Str)] w := fun os => WL.run_joinZ (fn := fn) (f1 := fn1) (f2 := fn2) rfl (runA w os) (runB w os) (runC w os) (runD w os) (runE w os)
end K03

/-! WA: pure data over the hand layer: what a value stands for, the pure environment, the judgements. -/
namespace WL
open PySem PySem.Spec PyProof.Rows L2

/-- a pure datum -/
inductive D where
  | non | bl (b : Bool) | int (i : Int) | str (x : Str)
  | tup (xs : List D) | lst (xs : List D) | dct (ps : List (D × D))
  | ins (c : Nat) (fs : List D) | exc (c : Nat) (fs : List D)
  | cls (c : Nat) | tok (k : Nat) | wtp (xs : List D) | wls (xs : List D)
  | fn (k : Addr) (q : Str) (o : Obj)

def keyD : Key → D
  | .inl i => .int i
  | .inr x => .str x
def isDk : HO → Bool
  | .dK _ => true
  | .dT _ => true
  | _ => false
def isFz : HO → Bool
  | .tbl _ => true
  | _ => false
/-- how often a law may draw -/
def limT : Nat := 2 ^ 9000
theorem limT_big : 2 ^ 250 ≤ limT := Nat.pow_le_pow_right (by decide) (by decide)
/-- what is frozen, and how often was drawn -/
structure Fz where
  h : Hp
  T : Nat
instance : CoeFun Fz fun _ => Hp := ⟨Fz.h⟩
instance : Coe Fz Hp := ⟨Fz.h⟩
def Fz.put (S : Fz) (a : Addr) (u : HO) : Fz := ⟨upd S.h a u, S.T⟩
theorem Fz.put_same {S : Fz} {a : Addr} {u : HO} : (S.put a u) a = some u := upd_same
theorem Fz.put_ne {S : Fz} {a b : Addr} {u : HO} (h : b ≠ a) : (S.put a u) b = S b := upd_ne h
/-- S' tells at least what S tells (a dict may be locked in either), behind at most n draws more -/
structure Sub (n : Nat) (S S' : Fz) : Prop where
  dk : ∀ a u, isDk u = true → Rd S a u → Rd S' a u
  ot : ∀ a u, isDk u = false → isFz u = false → S a = some u → S' a = some u
  lo : S'.T ≤ S.T + n
theorem Sub.refl (S : Fz) {n : Nat} : Sub n S S := ⟨fun _ _ _ h => h, fun _ _ _ _ h => h, Nat.le_add_right _ _⟩
theorem Sub.trans {n m : Nat} {S S1 S2 : Fz} (a : Sub n S S1) (b : Sub m S1 S2) : Sub (n + m) S S2 := ⟨fun c u n h => b.dk c u n (a.dk c u n h), fun c u n f h => b.ot c u n f (a.ot c u n f h), by have := a.lo; have := b.lo; omega⟩
theorem Sub.up {n m : Nat} {S S1 : Fz} (a : Sub n S S1) (h : n ≤ m) : Sub m S S1 := ⟨a.dk, a.ot, by have := a.lo; omega⟩
/-- .. no draws behind it -/
theorem Sub.t0 {n : Nat} {S S1 S2 : Fz} (a : Sub n S S1) (b : Sub 0 S1 S2) : Sub n S S2 := a.trans b
theorem Sub.of {n : Nat} {S S' : Fz} (h : ∀ a o, S a = some o → S' a = some o) (hl : S'.T ≤ S.T + n) : Sub n S S' := ⟨fun a u _ r => by
  rcases r with r | ⟨o, r⟩
  · exact .inl (h _ _ r)
  · exact .inr ⟨o, h _ _ r⟩, fun a vs _ _ e => h _ _ e, hl⟩
theorem Sub.upd {n : Nat} {S : Fz} {a : Addr} {o : HO} (h : S a = none) : Sub n S (S.put a o) := Sub.of (fun b u e => by
  rw [Fz.put_ne (ne_of_none e h)]; exact e) (Nat.le_add_right _ _)

/-- what the whole text shares: its own classes (address, attributes), the tokens (mutable things of all defs), where these lie, what is always true of them -/
structure Glob where
  ct : Nat → Option (Addr × List Str)
  ec : Nat → Option (Addr × Option Str)
  tk : Nat → Option Addr
  M : Addr → Prop
  J : Nat → Hp → Prop
  jlaw : ∀ T H H', J T H → (∀ a o, H a = some o → (M a ∨ ∃ p, o = .ext p) → H' a = some o) → J T H'
  mth : ∀ T H a, J T H → M a → H a ≠ none ∧ ∀ xs : List V ⊕ (Heap → Prop), H a ≠ some (match xs with | .inl ys => .tup ys | .inr p => .ext p)

/-- an error that was raised and caught: its class, its dict -/
def exR (a : Addr) (cls : Value) (d : Option Addr) : HO := .ext fun h => ∃ (oe : Obj) (vs : Array Value), h.get? a = some oe ∧ Zc cls d oe ∧ oe.data = .fields vs
theorem exR_ok {P : Program} {w : World} {H : Hp} {h : Heap} {a : Addr} {cls : Value} {d : Option Addr} {oe : Obj} {vs : Array Value} (e : h.get? a = some oe) (z : Zc cls d oe) (q : oe.data = .fields vs) : ObjOk P w H h a (exR a cls d) :=
  ⟨⟨oe, vs, e, z, q⟩, ⟨oe, e⟩, fun _ _ ⟨o, v, r, y⟩ k => ⟨o, v, k o r, y⟩⟩
theorem exR_at {P : Program} {w : World} {H : Hp} {h : Heap} {a : Addr} {cls : Value} {d : Option Addr} (hok : HOk P w H h) (e : H a = some (exR a cls d)) : ∃ (oe : Obj) (vs : Array Value), h.get? a = some oe ∧ Zc cls d oe ∧ oe.data = .fields vs := (hok a _ e).1
/-- the object itself is known -/
def objX (f : Addr) (o : Obj) : HO := .ext fun h => h.get? f = some o
theorem objX_ok {P : Program} {w : World} {H : Hp} {h : Heap} {f : Addr} {o : Obj} (e : h.get? f = some o) : ObjOk P w H h f (objX f o) := ⟨e, ⟨o, e⟩, fun _ _ y k => k o y⟩
theorem objX_at {P : Program} {w : World} {H : Hp} {h : Heap} {f : Addr} {o : Obj} (hok : HOk P w H h) (e : H f = some (objX f o)) : h.get? f = some o := (hok f _ e).1
/-- the value stands for the datum, by the frozen heap S -/
inductive Den (G : Glob) (K : PySem.W.Frag) (S : Fz) : V → D → Prop
  | non : Den G K S .non .non
  | bl (b : Bool) : Den G K S (.bl b) (.bl b)
  | int (i : Int) : Den G K S (.int i) (.int i)
  | str (x : Str) : Den G K S (.str x) (.str x)
  | tup {a : Addr} {vs : List V} {ds : List D} : S a = some (.tup vs) → vs.length = ds.length → (∀ (i : Nat) (v : V) (d : D), vs[i]? = some v → ds[i]? = some d → Den G K S v d) → Den G K S (.ref a) (.tup ds)
  | lst {a : Addr} {vs : List V} {ds : List D} : S a = some (.lst vs) → vs.length = ds.length → (∀ (i : Nat) (v : V) (d : D), vs[i]? = some v → ds[i]? = some d → Den G K S v d) → Den G K S (.ref a) (.lst ds)
  | dK {a : Addr} {kvs : List (Key × V)} {ps : List (D × D)} : Rd S a (.dK kvs) → kvs.length = ps.length → (∀ (i : Nat) (k : Key × V) (p : D × D), kvs[i]? = some k → ps[i]? = some p → p.1 = keyD k.1) →
      (∀ (i : Nat) (k : Key × V) (p : D × D), kvs[i]? = some k → ps[i]? = some p → Den G K S k.2 p.2) → Den G K S (.ref a) (.dct ps)
  | dT {a : Addr} {kvs : List (List Key × V)} {ps : List (D × D)} : Rd S a (.dT kvs) → kvs ≠ [] → kvs.length = ps.length → (∀ (i : Nat) (k : List Key × V) (p : D × D), kvs[i]? = some k → ps[i]? = some p → p.1 = .tup (k.1.map keyD)) →
      (∀ (i : Nat) (k : List Key × V) (p : D × D), kvs[i]? = some k → ps[i]? = some p → Den G K S k.2 p.2) → Den G K S (.ref a) (.dct ps)
  | ins {a C dx : Addr} {fs : List (Str × V)} {c : Nat} {ns : List Str} {ds : List D} : S a = some (.ins C dx fs) → G.ct c = some (C, ns) → fs.map (·.1) = ns → fs.length = ds.length →
      (∀ (i : Nat) (f : Str × V) (d : D), fs[i]? = some f → ds[i]? = some d → Den G K S f.2 d) → Den G K S (.ref a) (.ins c ds)
  | cls {C : Addr} {c : Nat} {ns : List Str} : G.ct c = some (C, ns) → Den G K S (.ref C) (.cls c)
  | tok {a : Addr} {k : Nat} : G.tk k = some a → Den G K S (.ref a) (.tok k)
  | wtp {a : Addr} {vs : List V} {ds : List D} : (∀ H, SqT K H a vs) → vs.length = ds.length → (∀ (i : Nat) (v : V) (d : D), vs[i]? = some v → ds[i]? = some d → Den G K S v d) → Den G K S (.ref a) (.wtp ds)
  | wls {a : Addr} {vs : List V} {ds : List D} : ((∃ o, S a = some (.frz o (.lst vs))) ∨ ∀ H, SqL K H a vs) → vs.length = ds.length → (∀ (i : Nat) (v : V) (d : D), vs[i]? = some v → ds[i]? = some d → Den G K S v d) → Den G K S (.ref a) (.wls ds)
  | exc0 {a C : Addr} {c : Nat} : G.ec c = some (C, none) → S a = some (ExO (.ref C) a) → Den G K S (.ref a) (.exc c [])
  | exc1 {a C e : Addr} {c : Nat} {f : Str} {v : V} {d : D} : G.ec c = some (C, some f) → S a = some (exo a C (some e)) → S e = some (exd e [(f, v)]) → Den G K S v d → Den G K S (.ref a) (.exc c [d])
  | excR0 {a C : Addr} {c : Nat} : G.ec c = some (C, none) → S a = some (exR a (.ref C) none) → Den G K S (.ref a) (.exc c [])
  | excR1 {a C e : Addr} {c : Nat} {f : Str} {v : V} {d : D} : G.ec c = some (C, some f) → S a = some (exR a (.ref C) (some e)) → S e = some (.xd [(f, v)]) → Den G K S v d → Den G K S (.ref a) (.exc c [d])
  | fn {f k : Addr} {q : Str} {o : Obj} : S f = some (objX f o) → S k = some (LamX.CodeO k q) → Den G K S (.ref f) (.fn k q o)

theorem Den.mono {n : Nat} {G : Glob} {K : PySem.W.Frag} {S S' : Fz} (m : Sub n S S') {v : V} {d : D} (h : Den G K S v d) : Den G K S' v d := by
  induction h with
  | non => exact .non
  | bl b => exact .bl b
  | int i => exact .int i
  | str x => exact .str x
  | tup h l _ ih => exact .tup (m.ot _ _ rfl rfl h) l ih
  | lst h l _ ih => exact .lst (m.ot _ _ rfl rfl h) l ih
  | dK h l k _ ih => exact .dK (m.dk _ _ rfl h) l k ih
  | dT h n l k _ ih => exact .dT (m.dk _ _ rfl h) n l k ih
  | ins h c n l _ ih => exact .ins (m.ot _ _ rfl rfl h) c n l ih
  | cls h => exact .cls h
  | tok h => exact .tok h
  | wtp h l _ ih => exact .wtp h l ih
  | wls h l _ ih => exact .wls (h.imp_left fun ⟨o, h⟩ => ⟨o, m.ot _ _ rfl rfl h⟩) l ih
  | exc0 h e => exact .exc0 h (m.ot _ _ rfl rfl e)
  | exc1 h e g _ ih => exact .exc1 h (m.ot _ _ rfl rfl e) (m.ot _ _ rfl rfl g) ih
  | excR0 h e => exact .excR0 h (m.ot _ _ rfl rfl e)
  | excR1 h e g _ ih => exact .excR1 h (m.ot _ _ rfl rfl e) (m.ot _ _ rfl rfl g) ih
  | fn h e => exact .fn (m.ot _ _ rfl rfl h) (m.ot _ _ rfl rfl e)

def DenL (G : Glob) (K : PySem.W.Frag) (S : Fz) (vs : List V) (ds : List D) : Prop := Paired (Den G K S) vs ds
theorem DenL.mono {n : Nat} {G : Glob} {K : PySem.W.Frag} {S S' : Fz} (m : Sub n S S') {vs : List V} {ds : List D} (h : DenL G K S vs ds) : DenL G K S' vs ds := Paired.mapP h fun _ _ => Den.mono m
theorem paired_at {α β : Type} {F : α → β → Prop} {l₁ : List α} {l₂ : List β} (h : Paired F l₁ l₂) : ∀ (i : Nat) a b, l₁[i]? = some a → l₂[i]? = some b → F a b := by
  induction h with
  | nil => intro i a b h; simp at h
  | cons r _ ih =>
    intro i a b h1 h2
    cases i with
    | zero => simp at h1 h2; subst h1; subst h2; exact r
    | succ i => exact ih i a b (by simpa using h1) (by simpa using h2)
theorem paired_of {α β : Type} {F : α → β → Prop} : ∀ {l₁ : List α} {l₂ : List β}, l₁.length = l₂.length → (∀ (i : Nat) a b, l₁[i]? = some a → l₂[i]? = some b → F a b) → Paired F l₁ l₂
  | [], [], _, _ => .nil
  | a :: l, b :: m, hl, h => .cons (h 0 a b rfl rfl) (paired_of (by simpa using hl) fun i x y h1 h2 => h (i + 1) x y (by simpa using h1) (by simpa using h2))
  | [], _ :: _, hl, _ => by simp at hl
  | _ :: _, [], hl, _ => by simp at hl
def DenK (G : Glob) (K : PySem.W.Frag) (S : Fz) (kvs : List (Key × V)) (ps : List (D × D)) : Prop := Paired (fun k p => p.1 = keyD k.1 ∧ Den G K S k.2 p.2) kvs ps
def DenT (G : Glob) (K : PySem.W.Frag) (S : Fz) (kvs : List (List Key × V)) (ps : List (D × D)) : Prop := Paired (fun k p => p.1 = .tup (k.1.map keyD) ∧ Den G K S k.2 p.2) kvs ps
theorem DenK.mono {n : Nat} {G : Glob} {K : PySem.W.Frag} {S S' : Fz} (m : Sub n S S') {vs} {ds} (h : DenK G K S vs ds) : DenK G K S' vs ds := Paired.mapP h fun _ _ z => ⟨z.1, z.2.mono m⟩
theorem DenT.mono {n : Nat} {G : Glob} {K : PySem.W.Frag} {S S' : Fz} (m : Sub n S S') {vs} {ds} (h : DenT G K S vs ds) : DenT G K S' vs ds := Paired.mapP h fun _ _ z => ⟨z.1, z.2.mono m⟩

section
variable {G : Glob} {K : PySem.W.Frag} {S : Fz}
theorem den_tup {a : Addr} {vs : List V} {ds : List D} (h : S a = some (.tup vs)) (r : DenL G K S vs ds) : Den G K S (.ref a) (.tup ds) := .tup h r.length (paired_at r)
theorem den_lst {a : Addr} {vs : List V} {ds : List D} (h : S a = some (.lst vs)) (r : DenL G K S vs ds) : Den G K S (.ref a) (.lst ds) := .lst h r.length (paired_at r)
theorem den_dK {a : Addr} {vs} {ds : List (D × D)} (h : Rd S a (.dK vs)) (r : DenK G K S vs ds) : Den G K S (.ref a) (.dct ds) :=
  .dK h r.length (fun i k p h1 h2 => (paired_at r i k p h1 h2).1) (fun i k p h1 h2 => (paired_at r i k p h1 h2).2)
theorem den_dT {a : Addr} {vs} {ds : List (D × D)} (h : Rd S a (.dT vs)) (n : vs ≠ []) (r : DenT G K S vs ds) : Den G K S (.ref a) (.dct ds) :=
  .dT h n r.length (fun i k p h1 h2 => (paired_at r i k p h1 h2).1) (fun i k p h1 h2 => (paired_at r i k p h1 h2).2)
end

section
variable {G : Glob} {K : PySem.W.Frag} {S : Fz} {v : V}
theorem Den.int_inv {i : Int} (h : Den G K S v (.int i)) : v = .int i := by cases h; rfl
theorem Den.str_inv {x : Str} (h : Den G K S v (.str x)) : v = .str x := by cases h; rfl
theorem Den.bl_inv {b : Bool} (h : Den G K S v (.bl b)) : v = .bl b := by cases h; rfl
theorem Den.non_inv (h : Den G K S v .non) : v = .non := by cases h; rfl
theorem Den.tup_inv {ds : List D} (h : Den G K S v (.tup ds)) : ∃ a vs, v = .ref a ∧ S a = some (.tup vs) ∧ DenL G K S vs ds := by
  cases h with
  | tup h l r => exact ⟨_, _, rfl, h, paired_of l r⟩
theorem Den.lst_inv {ds : List D} (h : Den G K S v (.lst ds)) : ∃ a vs, v = .ref a ∧ S a = some (.lst vs) ∧ DenL G K S vs ds := by
  cases h with
  | lst h l r => exact ⟨_, _, rfl, h, paired_of l r⟩
theorem Den.dct_inv {ps : List (D × D)} (h : Den G K S v (.dct ps)) : ∃ a, v = .ref a ∧ ((∃ kvs, Rd S a (.dK kvs) ∧ DenK G K S kvs ps) ∨ ∃ kvs, Rd S a (.dT kvs) ∧ kvs ≠ [] ∧ DenT G K S kvs ps) := by
  cases h with
  | dK h l k r => exact ⟨_, rfl, .inl ⟨_, h, paired_of l fun i x y h1 h2 => ⟨k i x y h1 h2, r i x y h1 h2⟩⟩⟩
  | dT h n l k r => exact ⟨_, rfl, .inr ⟨_, h, n, paired_of l fun i x y h1 h2 => ⟨k i x y h1 h2, r i x y h1 h2⟩⟩⟩
theorem Den.tok_inv {k : Nat} (h : Den G K S v (.tok k)) : ∃ a, v = .ref a ∧ G.tk k = some a := by
  cases h with
  | tok h => exact ⟨_, rfl, h⟩
end

theorem Den.wls_inv {G : Glob} {K : PySem.W.Frag} {S : Fz} {v : V} {ds : List D} (h : Den G K S v (.wls ds)) : ∃ a vs, v = .ref a ∧ (∀ H, (∀ b o, S b = some o → H b = some o) → SqL K H a vs) ∧ ((∃ o, S a = some (.frz o (.lst vs))) ∨ ∀ H, SqL K H a vs) ∧ DenL G K S vs ds := by
  cases h with
  | wls h l r =>
    refine ⟨_, _, rfl, fun H q => ?_, h, paired_of l r⟩
    rcases h with ⟨o, h⟩ | h
    · exact .inl (.inr ⟨o, q _ _ h⟩)
    · exact h H
/-! ### the pure environment -/
inductive Own where
  | lst (xs : List D) | dct (ps : List (D × D)) | ins (c : Nat) (fs : List (Str × D))
def Own.d : Own → D
  | .lst xs => .lst xs
  | .dct ps => .dct ps
  | .ins c fs => .ins c (fs.map (·.2))
/-- a list or a dict -/
def Own.con : Own → Bool
  | .ins _ _ => false
  | _ => true
/-- an instance has all of its attributes -/
def Own.full (G : Glob) : Own → Prop
  | .ins c fs => ∃ C, G.ct c = some (C, fs.map (·.1))
  | _ => True
theorem Own.con_full {G : Glob} {o : Own} (h : o.con = true) : o.full G := by cases o <;> first | trivial | cases h
theorem Own.d_inj {o o' : Own} (h : o.con = true) (h' : o'.con = true) (e : o.d = o'.d) : o = o' := by
  cases o <;> cases o' <;> simp [Own.d, Own.con] at e h h' <;> rw [e]
def DenF (G : Glob) (K : PySem.W.Frag) (S : Fz) (vs : List (Str × V)) (fs : List (Str × D)) : Prop := Paired (fun v f => v.1 = f.1 ∧ Den G K S v.2 f.2) vs fs
theorem DenF.mono {n : Nat} {G : Glob} {K : PySem.W.Frag} {S S' : Fz} (m : Sub n S S') {vs fs} (h : DenF G K S vs fs) : DenF G K S' vs fs := Paired.mapP h fun _ _ z => ⟨z.1, z.2.mono m⟩
inductive Slot where
  | imm (d : D) | own (o : Own)
abbrev EnvD := List (Option Slot)
theorem DenF.names {G : Glob} {K : PySem.W.Frag} {S : Fz} : ∀ {vs : List (Str × V)} {fs : List (Str × D)}, DenF G K S vs fs → vs.map (·.1) = fs.map (·.1)
  | _, _, .nil => rfl
  | _, _, .cons r t => by simp only [List.map_cons]; rw [r.1, DenF.names t]
/-- what a container of one's own holds -/
def OwnAt (G : Glob) (K : PySem.W.Frag) (S : Fz) (H : Hp) (a : Addr) : Own → Prop
  | .lst xs => ∃ vs, H a = some (.lst vs) ∧ DenL G K S vs xs
  | .dct ps => (∃ kvs, H a = some (.dK kvs) ∧ DenK G K S kvs ps) ∨ (∃ kvs, H a = some (.dT kvs) ∧ kvs ≠ [] ∧ DenT G K S kvs ps)
  | .ins c fs => ∃ C ns dx vs, G.ct c = some (C, ns) ∧ H a = some (.ins C dx vs) ∧ DenF G K S vs fs
theorem OwnAt.mono {n : Nat} {G : Glob} {K : PySem.W.Frag} {S S' : Fz} {H H' : Hp} {a : Addr} {o : Own} (m : Sub n S S') (e : H' a = H a) (h : OwnAt G K S H a o) : OwnAt G K S' H' a o := by
  cases o with
  | lst xs => obtain ⟨vs, h1, h2⟩ := h; exact ⟨vs, e.trans h1, h2.mono m⟩
  | dct ps =>
    rcases h with ⟨vs, h1, h2⟩ | ⟨vs, h1, hn, h2⟩
    · exact .inl ⟨vs, e.trans h1, h2.mono m⟩
    · exact .inr ⟨vs, e.trans h1, hn, h2.mono m⟩
  | ins c fs => obtain ⟨C, ns, dx, vs, h1, h2, h3⟩ := h; exact ⟨C, ns, dx, vs, h1, e.trans h2, h3.mono m⟩
theorem OwnAt.there {G : Glob} {K : PySem.W.Frag} {S : Fz} {H : Hp} {a : Addr} {o : Own} (h : OwnAt G K S H a o) : ∃ u, H a = some u ∧ Mut (some u) ∧ (∀ o w, u ≠ .frz o w) ∧ (∀ p, u ≠ .ext p) ∧ ∀ ps, u ≠ .tbl ps := by
  cases o with
  | lst xs => obtain ⟨vs, h1, _⟩ := h; exact ⟨_, h1, trivial, (fun _ _ z => nomatch z), (fun _ z => nomatch z), fun _ z => nomatch z⟩
  | dct ps =>
    rcases h with ⟨vs, h1, _⟩ | ⟨vs, h1, _⟩ <;> exact ⟨_, h1, trivial, (fun _ _ z => nomatch z), (fun _ z => nomatch z), fun _ z => nomatch z⟩
  | ins c fs => obtain ⟨C, ns, dx, vs, _, h1, _⟩ := h; exact ⟨_, h1, trivial, (fun _ _ z => nomatch z), (fun _ z => nomatch z), fun _ z => nomatch z⟩
/-- the heap and what is frozen at the entry; the containers that are held aside -/
structure Bs where
  H0 : Hp
  S0 : Hp
  tmp : List (Addr × Own) := []
  self : Addr := 0
  sl : Nat → Option (Option V) := fun _ => none
/-- x holds o, or (where s tells something) o locked -/
def Lk (s : Option HO) (o : HO) (x : Option HO) : Prop := x = some o ∨ (isDk o = true ∧ s ≠ none ∧ ∃ od, x = some (.frz od o))
theorem Lk.eq {s : Option HO} {o : HO} {x : Option HO} (h : Lk s o x) (e : s = none) : x = some o := h.elim id fun ⟨_, n, _⟩ => absurd e n
/-- what may be frozen wherever it lies: tuples, objects that are known -/
abbrev TX : Type := List V ⊕ (Heap → Prop)
def txo : TX → HO
  | .inl xs => .tup xs
  | .inr p => .ext p
theorem txo_tbl {x : TX} {ps : Array Value} : txo x ≠ .tbl ps := by cases x <;> exact fun z => nomatch z
theorem txo_dk {x : TX} : isDk (txo x) = false := by cases x <;> rfl
theorem txo_mut {x : TX} {u : HO} (e : u = txo x) (m : Mut (some u)) (ne : ∀ p, u ≠ .ext p) : False := by
  subst e
  cases x with
  | inl xs => exact m
  | inr p => exact ne p rfl
/-- what is frozen (S), the heap (H) -/
structure Sta (G : Glob) (K : PySem.W.Frag) (B : Bs) (S : Fz) (H : Hp) : Prop where
  le : ∀ a o, S a = some o → H a = some o
  sm : ∀ a, G.M a → S a = none
  j : G.J S.T H
  dom : ∀ a, B.H0 a ≠ none → H a ≠ none
  sn : ∀ a, S a ≠ none → (∀ xs : TX, S a ≠ some (txo xs)) → B.S0 a ≠ none ∨ B.H0 a = none
  kept : ∀ a o, B.H0 a = some o → ¬ G.M a → (∀ ps, o ≠ .tbl ps) → Lk (B.S0 a) o (H a)
/-- a container that is ours alone -/
structure Own1 (G : Glob) (K : PySem.W.Frag) (B : Bs) (S : Fz) (H : Hp) (a : Addr) (o : Own) : Prop where
  s : S a = none
  m : ¬ G.M a
  h0 : B.H0 a = none
  at_ : OwnAt G K S H a o
def Owns (σ : L2.St) (ρ : EnvD) (i : Nat) (a : Addr) (o : Own) : Prop := ρ[i]? = some (some (Slot.own o)) ∧ σ[i]? = some (some (V.ref a))
/-- an exception in the air: its class, its dict, what it tells -/
def DX (G : Glob) (K : PySem.W.Frag) (S : Fz) (H : Hp) (cls : Value) (dx : Option Addr) : D → Prop
  | .exc c fs => ∃ C fl, G.ec c = some (C, fl) ∧ cls = .ref C ∧ match fl with
    | none => dx = none ∧ fs = []
    | some f => ∃ d v y, dx = some d ∧ S d = some (.xd [(f, v)]) ∧ fs = [y] ∧ Den G K S v y
  | _ => False
/-- what is wanted of exceptions: over values (W), over data (xd); the slots that a handler leans on (keep) -/
structure XO where
  W : WX
  xd : D → Prop
  keep : Nat → Bool
  t0 : Nat
  ln : List Nat := []
/-- the state: the slots' values and what they stand for -/
structure Eok (G : Glob) (K : PySem.W.Frag) (O : XO) (B : Bs) (S : Fz) (H : Hp) (σ : L2.St) (ρ : EnvD) : Prop extends Sta G K B S H where
  tz : S.T ≤ O.t0 ∨ ∀ x, ¬ O.xd x
  xr : ∀ n cls dx S' H' σ' x, Sta G K B S' H' → S'.T ≤ O.t0 → Sub n S S' → (∀ i, O.keep i = true → σ'[i]? = σ[i]?) → DX G K S' H' cls dx x → O.xd x → O.W cls dx σ' H'
  im : ∀ (i : Nat) (d : D), ρ[i]? = some (some (Slot.imm d)) → ∃ v : V, σ[i]? = some (some v) ∧ Den G K S v d
  ow : ∀ (i : Nat) (o : Own), ρ[i]? = some (some (Slot.own o)) → ∃ a : Addr, σ[i]? = some (some (V.ref a)) ∧ Own1 G K B S H a o
  ap : ∀ i j a o o', Owns σ ρ i a o → Owns σ ρ j a o' → i = j
  tm : ∀ (j : Nat) a o, B.tmp[j]? = some (a, o) → Own1 G K B S H a o
  ta : ∀ (i j : Nat) a o o', Owns σ ρ i a o → B.tmp[j]? = some (a, o') → False
  tt : ∀ (i j : Nat) a o o', B.tmp[i]? = some (a, o) → B.tmp[j]? = some (a, o') → i = j
  len : σ.length = ρ.length
  sf : ∀ (i c : Nat) fs, ρ[i]? = some (some (Slot.own (.ins c fs))) → σ[i]? = some (some (V.ref B.self))
  kp : ∀ i, O.keep i = true → σ[i]? = B.sl i
/-- nobody's -/
structure Nob (B : Bs) (σ : L2.St) (ρ : EnvD) (a : Addr) : Prop where
  no : ∀ i o, ¬ Owns σ ρ i a o
  nt : ∀ (j : Nat) o, B.tmp[j]? = some (a, o) → False

/-- how a result lies: frozen; in a container that is new and nobody's; in the container of slot i -/
inductive Kd where
  | st | fr | bo (i : Nat)
  deriving DecidableEq
def ROk (G : Glob) (K : PySem.W.Frag) (B : Bs) (S : Fz) (H : Hp) (σ : L2.St) (ρ : EnvD) (v : V) (d : D) : Kd → Prop
  | .st => Den G K S v d
  | .fr => ∃ a o, v = .ref a ∧ d = Own.d o ∧ Own1 G K B S H a o ∧ o.con = true ∧ Nob B σ ρ a
  | .bo i => ∃ a o, v = .ref a ∧ d = Own.d o ∧ Owns σ ρ i a o ∧ o.con = true

/-- a reading over pure data -/
abbrev FE := EnvD → (EnvD → D → Prop) → Prop
/-- an expression: its kind, whether it leaves the environment as it is (c), how often it draws at most (n), its pure reading -/
structure PDe (G : Glob) (X : Cx) (O : XO) (e : Expr) (k : Kd) (c : Bool) (n : Nat) (f : FE) : Prop where
  run : ∃ t : TE, PE X e t ∧ ∀ (B : Bs) (S : Fz) (H : Hp) (σ : L2.St) (ρ : EnvD) (Kc : EnvD → D → Prop) (Q : VK), Eok G X.K O B S H σ ρ → S.T + n ≤ limT → f ρ Kc →
    (∀ v H' S' ρ' d, Eok G X.K O B S' H' σ ρ' → Sub n S S' → (c = true → ρ' = ρ) → ROk G X.K B S' H' σ ρ' v d k → Kc ρ' d → Q v H') → t σ H Q
end WL

/-! WB: expressions: names, constants, operators, calls of built-ins, displays. -/
namespace WL
open PySem PySem.Spec PyProof.Rows L2
section
variable {G : Glob} {K : PySem.W.Frag} {O : XO} {B : Bs} {S S' : Fz} {H H' : Hp} {σ : L2.St} {ρ : EnvD}

theorem Owns.at {i : Nat} {a : Addr} {o : Own} (I : Eok G K O B S H σ ρ) (h : Owns σ ρ i a o) : Own1 G K B S H a o := by
  obtain ⟨b, e, r⟩ := I.ow i o h.1
  have := h.2
  rw [e] at this
  cases this
  exact r
theorem Own1.keep {n : Nat} {a : Addr} {o : Own} (h : Own1 G K B S H a o) (m : Sub n S S') (e1 : S' a = S a) (e2 : H' a = H a) : Own1 G K B S' H' a o :=
  ⟨e1.trans h.s, h.m, h.h0, h.at_.mono m e2⟩
theorem Own1.some {a : Addr} {o : Own} (h : Own1 G K B S H a o) : H a ≠ none := by
  obtain ⟨u, e, _⟩ := h.at_.there
  rw [e]; exact fun z => nomatch z
/-- S grows, H changes, at places that are nobody's -/
theorem Eok.step {x : Addr} (I : Eok G K O B S H σ ρ) (t : Sta G K B S' H') (hT : S'.T = S.T) (m : Sub 0 S S') (n : Nob B σ ρ x) (e1 : ∀ b, b ≠ x → S' b = S b) (e2 : ∀ b, b ≠ x → H' b = H b) : Eok G K O B S' H' σ ρ := by
  refine ⟨t, by rw [hT]; exact I.tz, fun n2 cls dx S2 H2 σ2 x t2 l2 m2 k2 d2 => I.xr (0 + n2) cls dx S2 H2 σ2 x t2 l2 (m.trans m2) k2 d2, fun i d e => ?_, fun i o e => ?_, I.ap, fun j a o e => ?_, I.ta, I.tt, I.len, I.sf, I.kp⟩
  · obtain ⟨v, q1, q2⟩ := I.im i d e; exact ⟨v, q1, q2.mono m⟩
  · obtain ⟨b, q1, q2⟩ := I.ow i o e
    have hb : b ≠ x := fun z => n.no i o ⟨e, by rw [← z]; exact q1⟩
    exact ⟨b, q1, q2.keep m (e1 b hb) (e2 b hb)⟩
  · have hb : a ≠ x := fun z => n.nt j o (by rw [← z]; exact e)
    exact (I.tm j a o e).keep m (e1 a hb) (e2 a hb)
/-- a container is frozen -/
theorem Eok.freeze {a : Addr} {o : Own} (I : Eok G K O B S H σ ρ) (h : Own1 G K B S H a o) (hf : o.full G) (n : Nob B σ ρ a) :
    ∃ S', Eok G K O B S' H σ ρ ∧ Sub 0 S S' ∧ Den G K S' (.ref a) o.d := by
  obtain ⟨u, hu, _, hn, _, _⟩ := h.at_.there
  have sub : Sub 0 S (S.put a u) := Sub.upd h.s
  refine ⟨S.put a u, I.step (x := a) ⟨fun b o e => ?_, fun b m => ?_, I.j, I.dom, fun b e nt => ?_, I.kept⟩ rfl sub n (fun b hb => Fz.put_ne hb) (fun _ _ => rfl), sub, ?_⟩
  · by_cases hb : b = a
    · subst hb; rw [Fz.put_same] at e; cases e; exact hu
    · rw [Fz.put_ne hb] at e; exact I.le b o e
  · rw [Fz.put_ne (fun z => h.m (by rw [← z]; exact m))]; exact I.sm b m
  · by_cases hb : b = a
    · subst hb; exact .inr h.h0
    · rw [Fz.put_ne hb] at e; exact I.sn b e fun xs z => nt xs ((Fz.put_ne hb).trans z)
  · have h4 := h.at_
    cases o with
    | lst xs =>
      obtain ⟨vs, e1, e2⟩ := h4
      rw [e1] at hu; cases hu
      exact den_lst Fz.put_same (e2.mono sub)
    | dct ps =>
      rcases h4 with ⟨vs, e1, e2⟩ | ⟨vs, e1, en, e2⟩
      · rw [e1] at hu; cases hu
        exact den_dK (.inl Fz.put_same) (e2.mono sub)
      · rw [e1] at hu; cases hu
        exact den_dT (.inl Fz.put_same) en (e2.mono sub)
    | ins c fs =>
      obtain ⟨C, ns, dx, vs, e1, e2, e3⟩ := h4
      rw [e2] at hu; cases hu
      obtain ⟨C', hf⟩ := hf
      have e4 := e3.names
      rw [e1] at hf; cases hf
      refine .ins Fz.put_same e1 e4 (by rw [List.length_map]; exact e3.length) fun i f d h1 h2 => ?_
      rw [List.getElem?_map] at h2
      cases q : fs[i]? with
      | none => rw [q] at h2; simp at h2
      | some g =>
        rw [q] at h2
        simp at h2
        subst h2
        exact ((paired_at e3 i f g h1 q).2).mono sub
theorem Sta.new {a : Addr} (I : Sta G K B S H) (h : H a = none) : S a = none ∧ ¬ G.M a ∧ B.H0 a = none := by
  refine ⟨?_, fun m => (G.mth _ _ _ I.j m).1 h, ?_⟩
  · cases e : S a with
    | none => rfl
    | some o => rw [I.le a o e] at h; cases h
  · cases e : B.H0 a with
    | none => rfl
    | some o => exact absurd h (I.dom a (by rw [e]; exact fun z => nomatch z))
/-- something new is laid at a place that is new -/
theorem Sta.laid {a : Addr} {u : HO} (I : Sta G K B S H) (h : H a = none) : Sta G K B S (upd H a u) := by
  obtain ⟨hs, hm, h0⟩ := I.new h
  refine ⟨fun b o e => ?_, I.sm, ?_, fun b e => ?_, I.sn, fun b o e m n => ?_⟩
  · rw [upd_ne (ne_of_none e hs)]; exact I.le b o e
  · exact G.jlaw S.T H _ I.j fun b o e _ => by rw [upd_ne (ne_of_none e h)]; exact e
  · have := I.dom b e
    by_cases hb : b = a
    · rw [hb, upd_same]; exact fun z => nomatch z
    · rw [upd_ne hb]; exact this
  · rcases I.kept b o e m n with q | ⟨dk, ns, od, q⟩
    · rw [upd_ne (ne_of_none q h)]; exact .inl q
    · rw [upd_ne (ne_of_none q h)]; exact .inr ⟨dk, ns, od, q⟩
theorem Eok.nob {a : Addr} (I : Eok G K O B S H σ ρ) (h : H a = none) : Nob B σ ρ a :=
  ⟨fun i o w => (Owns.at I w).some h, fun j o e => (I.tm j a o e).some h⟩
theorem Eok.laid {a : Addr} {u : HO} (I : Eok G K O B S H σ ρ) (h : H a = none) : Eok G K O B S (upd H a u) σ ρ :=
  I.step (x := a) (I.toSta.laid h) rfl (Sub.refl _) (I.nob h) (fun _ _ => rfl) (fun b hb => upd_ne hb)
/-- a new container -/
theorem Eok.lays {a : Addr} {u : HO} {o : Own} (I : Eok G K O B S H σ ρ) (h : H a = none) (w : OwnAt G K S (upd H a u) a o) (hc : o.con = true := by rfl) : Eok G K O B S (upd H a u) σ ρ ∧ ROk G K B S (upd H a u) σ ρ (.ref a) o.d .fr := by
  obtain ⟨hs, hm, h0⟩ := I.toSta.new h
  exact ⟨I.laid h, a, o, rfl, rfl, ⟨hs, hm, h0, w⟩, hc, I.nob h⟩
/-- a new frozen thing -/
theorem Eok.laysF {a : Addr} {u : HO} (I : Eok G K O B S H σ ρ) (h : H a = none) : Eok G K O B (S.put a u) (upd H a u) σ ρ ∧ Sub 0 S (S.put a u) := by
  have t := I.toSta.laid (u := u) h
  obtain ⟨hs, hm, h0⟩ := I.toSta.new h
  have sub : Sub 0 S (S.put a u) := Sub.upd hs
  refine ⟨I.step (x := a) ⟨fun b o e => ?_, fun b m => ?_, t.j, t.dom, fun b e nt => ?_, t.kept⟩ rfl sub (I.nob h) (fun b hb => Fz.put_ne hb) (fun b hb => upd_ne hb), sub⟩
  · by_cases hb : b = a
    · subst hb; rw [Fz.put_same] at e; rw [upd_same]; exact e
    · rw [Fz.put_ne hb] at e; rw [upd_ne hb]; exact I.le b o e
  · rw [Fz.put_ne (fun z => hm (by rw [← z]; exact m))]; exact I.sm b m
  · by_cases hb : b = a
    · subst hb; exact .inr h0
    · rw [Fz.put_ne hb] at e; exact I.sn b e fun xs z => nt xs ((Fz.put_ne hb).trans z)

/-! ### a result of any kind, looked at -/
theorem rd_le {a : Addr} {u : HO} (I : Sta G K B S H) (h : Rd S a u) : Rd H a u := by
  rcases h with h | ⟨o, h⟩
  · exact .inl (I.le _ _ h)
  · exact .inr ⟨o, I.le _ _ h⟩
theorem own_lst {o : Own} {xs : List D} (h : D.lst xs = o.d) : o = .lst xs := by cases o <;> simp [Own.d] at h; rw [h]
theorem own_dct {o : Own} {xs : List (D × D)} (h : D.dct xs = o.d) : o = .dct xs := by cases o <;> simp [Own.d] at h; rw [h]
variable {k : Kd} {v : V}
theorem ROk.own {d : D} (I : Eok G K O B S H σ ρ) (r : ROk G K B S H σ ρ v d k) : Den G K S v d ∨ ∃ a o, v = .ref a ∧ d = Own.d o ∧ OwnAt G K S H a o := by
  cases k with
  | st => exact .inl r
  | fr => obtain ⟨a, o, e1, e2, w, _⟩ := r; exact .inr ⟨a, o, e1, e2, w.at_⟩
  | bo i => obtain ⟨a, o, e1, e2, w, _⟩ := r; exact .inr ⟨a, o, e1, e2, (Owns.at I w).at_⟩
theorem ROk.lst {xs : List D} (I : Eok G K O B S H σ ρ) (r : ROk G K B S H σ ρ v (.lst xs) k) : ∃ a vs, v = .ref a ∧ H a = some (.lst vs) ∧ DenL G K S vs xs := by
  rcases r.own I with r | ⟨a, o, e1, e2, w⟩
  · obtain ⟨a, vs, e, h, l⟩ := r.lst_inv; exact ⟨a, vs, e, I.le _ _ h, l⟩
  · obtain rfl := own_lst e2
    obtain ⟨vs, h, l⟩ := w
    exact ⟨a, vs, e1, h, l⟩
theorem ROk.tup {xs : List D} (I : Eok G K O B S H σ ρ) (r : ROk G K B S H σ ρ v (.tup xs) k) : ∃ a vs, v = .ref a ∧ H a = some (.tup vs) ∧ DenL G K S vs xs := by
  rcases r.own I with r | ⟨a, o, e1, e2, w⟩
  · obtain ⟨a, vs, e, h, l⟩ := r.tup_inv; exact ⟨a, vs, e, I.le _ _ h, l⟩
  · cases o <;> cases e2
theorem ROk.dct {xs : List (D × D)} (I : Eok G K O B S H σ ρ) (r : ROk G K B S H σ ρ v (.dct xs) k) : ∃ a, v = .ref a ∧ ((∃ kvs, Rd H a (.dK kvs) ∧ DenK G K S kvs xs) ∨ ∃ kvs, Rd H a (.dT kvs) ∧ kvs ≠ [] ∧ DenT G K S kvs xs) := by
  rcases r.own I with r | ⟨a, o, e1, e2, w⟩
  · obtain ⟨a, e, h⟩ := r.dct_inv
    rcases h with ⟨kvs, h, l⟩ | ⟨kvs, h, n, l⟩
    · exact ⟨a, e, .inl ⟨kvs, rd_le I.toSta h, l⟩⟩
    · exact ⟨a, e, .inr ⟨kvs, rd_le I.toSta h, n, l⟩⟩
  · obtain rfl := own_dct e2
    rcases w with ⟨kvs, h, l⟩ | ⟨kvs, h, n, l⟩
    · exact ⟨a, e1, .inl ⟨kvs, .inl h, l⟩⟩
    · exact ⟨a, e1, .inr ⟨kvs, .inl h, n, l⟩⟩
theorem ROk.flat {d : D} (I : Eok G K O B S H σ ρ) (r : ROk G K B S H σ ρ v d k) (h : ∀ o : Own, d ≠ o.d) : Den G K S v d := by
  rcases r.own I with r | ⟨a, o, e1, e2, w⟩
  · exact r
  · exact absurd e2 (h o)
theorem ROk.int {i : Int} (I : Eok G K O B S H σ ρ) (r : ROk G K B S H σ ρ v (.int i) k) : v = .int i := (r.flat I fun o z => by cases o <;> cases z).int_inv
theorem ROk.str {i : Str} (I : Eok G K O B S H σ ρ) (r : ROk G K B S H σ ρ v (.str i) k) : v = .str i := (r.flat I fun o z => by cases o <;> cases z).str_inv
theorem ROk.bl {i : Bool} (I : Eok G K O B S H σ ρ) (r : ROk G K B S H σ ρ v (.bl i) k) : v = .bl i := (r.flat I fun o z => by cases o <;> cases z).bl_inv
theorem ROk.non (I : Eok G K O B S H σ ρ) (r : ROk G K B S H σ ρ v .non k) : v = .non := (r.flat I fun o z => by cases o <;> cases z).non_inv
/-- any result is frozen, if it is nobody's -/
theorem ROk.freeze {d : D} (I : Eok G K O B S H σ ρ) (r : ROk G K B S H σ ρ v d .fr) : ∃ S', Eok G K O B S' H σ ρ ∧ Sub 0 S S' ∧ Den G K S' v d := by
  obtain ⟨a, o, rfl, rfl, h1, hc, h2⟩ := r
  exact I.freeze h1 (Own.con_full hc) h2
/-- a result stays behind a calm expression -/
theorem ROk.later {n : Nat} {d : D} (r : ROk G K B S H σ ρ v d k) {ρ' : EnvD} (m : Sub n S S') (hk : k = .st ∨ (∃ i, k = .bo i) ∧ ρ' = ρ) : ROk G K B S' H' σ ρ' v d k := by
  rcases hk with rfl | ⟨⟨i, rfl⟩, rfl⟩
  · exact Den.mono m r
  · exact r
end

/-! ### expressions -/
section
variable {G : Glob} {X : Cx} {O : XO} {e a b : Expr} {k ka kb : Kd} {c ca cb : Bool} {n na nb : Nat} {f fa fb : FE} {pos : Pos}
theorem e_fz (h : PDe G X O e .fr c n f) : PDe G X O e .st c n f := by
  obtain ⟨t, ht, q⟩ := h.run
  refine ⟨t, ht, fun B S H σ ρ Kc Q I hb hf hq => q B S H σ ρ Kc Q I (by omega) hf fun v H' S' ρ' d I' m hc r hk => ?_⟩
  obtain ⟨S2, I2, m2, r2⟩ := r.freeze I'
  exact hq v H' S2 ρ' d I2 (m.t0 m2) hc r2 hk
def fVar (i : Nat) : FE := fun ρ Kc => ∃ d, ρ[i]? = some (some (.imm d)) ∧ Kc ρ d
theorem e_var (i : Nat) {x : Str} (hN : X.N[i]? = some x := by rfl) (hv : Vis X.env.scope x := by first | exact Or.inl rfl | exact Or.inr (Or.inl rfl) | exact Or.inr (Or.inr rfl))
    (hd : (x == ("__debug__" : Str)) = false := by decide) (hcd : (x == ("__classdict__" : Str)) = false := by decide) : PDe G X O (.Name x pos) .st true 0 (fVar i) := by
  refine ⟨_, pe_var hN hv hd hcd, fun B S H σ ρ Kc Q I hb hf hq => ?_⟩
  obtain ⟨d, e, hk⟩ := hf
  obtain ⟨v, e1, e2⟩ := I.im i d e
  exact ⟨v, e1, hq v H S ρ d I (Sub.refl _) (fun _ => rfl) e2 hk⟩
def fOwn (i : Nat) : FE := fun ρ Kc => ∃ o, ρ[i]? = some (some (.own o)) ∧ o.con = true ∧ Kc ρ o.d
theorem e_own (i : Nat) {x : Str} (hN : X.N[i]? = some x := by rfl) (hv : Vis X.env.scope x := by first | exact Or.inl rfl | exact Or.inr (Or.inl rfl) | exact Or.inr (Or.inr rfl))
    (hd : (x == ("__debug__" : Str)) = false := by decide) (hcd : (x == ("__classdict__" : Str)) = false := by decide) : PDe G X O (.Name x pos) (.bo i) true 0 (fOwn i) := by
  refine ⟨_, pe_var hN hv hd hcd, fun B S H σ ρ Kc Q I hb hf hq => ?_⟩
  obtain ⟨o, e, hc, hk⟩ := hf
  obtain ⟨a, e1, _⟩ := I.ow i o e
  exact ⟨.ref a, e1, hq _ H S ρ _ I (Sub.refl _) (fun _ => rfl) ⟨a, o, rfl, rfl, ⟨e, e1⟩, hc⟩ hk⟩
def fC (d : D) : FE := fun ρ Kc => Kc ρ d
theorem e_of {t : TE} {v : V} {d : D} (h : PE X e t) (ht : t = tC v) (hd : ∀ S, Den G X.K S v d) : PDe G X O e .st true 0 (fC d) := by
  subst ht
  exact ⟨_, h, fun B S H σ ρ Kc Q I hb hf hq => hq v H S ρ d I (Sub.refl _) (fun _ => rfl) (hd S) hf⟩
theorem e_int {i j} : PDe G X O (.Constant (.int i) j pos) .st true 0 (fC (.int i)) := e_of pe_int rfl fun _ => .int i
theorem e_bl {i j} : PDe G X O (.Constant (.bool i) j pos) .st true 0 (fC (.bl i)) := e_of pe_bl rfl fun _ => .bl i
theorem e_non {j} : PDe G X O (.Constant .none j pos) .st true 0 (fC .non) := e_of pe_non rfl fun _ => .non
theorem e_str {i j} : PDe G X O (.Constant (.str i) j pos) .st true 0 (fC (.str i)) := e_of pe_str rfl fun _ => .str i
/-- a constant of the module -/
theorem e_glob {x : Str} {v : V} {d : D} (hg : Gl X x) (h : ∃ u, X.mg x = some u ∧ RelV v u) (hd : ∀ S, Den G X.K S v d) (hdb : (x == ("__debug__" : Str)) = false := by decide) : PDe G X O (.Name x pos) .st true 0 (fC d) := by
  obtain ⟨u, h1, h2⟩ := h
  exact e_of (pe_glob hg h1 h2 hdb) rfl hd

/-- which left operands stay: frozen ones, or a container of a slot ahead of a calm right one -/
def okK (k : Kd) (c : Bool) : Bool := match k with
  | .st => true
  | .bo _ => c
  | .fr => false
theorem okK_use {c : Bool} (h : okK k c = true) {ρ ρ' : EnvD} (hc : c = true → ρ' = ρ) : k = .st ∨ (∃ i, k = .bo i) ∧ ρ' = ρ := by
  cases k with
  | st => exact .inl rfl
  | bo i => exact .inr ⟨⟨i, rfl⟩, hc h⟩
  | fr => exact nomatch h
def R2s (G : Glob) (X : Cx) (O : XO) (r : R2) (g : D → D → (D → Prop) → Prop) (k : Kd) : Prop :=
  ∀ (B : Bs) (S : Fz) (H : Hp) (σ : L2.St) (ρ : EnvD) (ka kb : Kd) (v w : V) (x y : D) (Kc : D → Prop) (Q : VK), Eok G X.K O B S H σ ρ → ROk G X.K B S H σ ρ v x ka → ROk G X.K B S H σ ρ w y kb → g x y Kc →
    (∀ z H' S' d, Eok G X.K O B S' H' σ ρ → Sub 0 S S' → ROk G X.K B S' H' σ ρ z d k → Kc d → Q z H') → r v w H Q
def fOp (g : D → D → (D → Prop) → Prop) (fa fb : FE) : FE := fun ρ Kc => fa ρ fun ρ1 x => fb ρ1 fun ρ2 y => g x y (Kc ρ2)
theorem e_opT {r : R2} {g} {ta tb : TE} (hs : R2s G X O r g k) (hk : okK ka cb = true)
    (qa : ∀ (B : Bs) (S : Fz) (H : Hp) (σ : L2.St) (ρ : EnvD) (Kc : EnvD → D → Prop) (Q : VK), Eok G X.K O B S H σ ρ → S.T + na ≤ limT → fa ρ Kc → (∀ v H' S' ρ' d, Eok G X.K O B S' H' σ ρ' → Sub na S S' → (ca = true → ρ' = ρ) → ROk G X.K B S' H' σ ρ' v d ka → Kc ρ' d → Q v H') → ta σ H Q)
    (qb : ∀ (B : Bs) (S : Fz) (H : Hp) (σ : L2.St) (ρ : EnvD) (Kc : EnvD → D → Prop) (Q : VK), Eok G X.K O B S H σ ρ → S.T + nb ≤ limT → fb ρ Kc → (∀ v H' S' ρ' d, Eok G X.K O B S' H' σ ρ' → Sub nb S S' → (cb = true → ρ' = ρ) → ROk G X.K B S' H' σ ρ' v d kb → Kc ρ' d → Q v H') → tb σ H Q) :
    ∀ (B : Bs) (S : Fz) (H : Hp) (σ : L2.St) (ρ : EnvD) (Kc : EnvD → D → Prop) (Q : VK), Eok G X.K O B S H σ ρ → S.T + (na + nb) ≤ limT → fOp g fa fb ρ Kc →
    (∀ v H' S' ρ' d, Eok G X.K O B S' H' σ ρ' → Sub (na + nb) S S' → ((ca && cb) = true → ρ' = ρ) → ROk G X.K B S' H' σ ρ' v d k → Kc ρ' d → Q v H') → tOp r ta tb σ H Q := fun B S H σ ρ Kc Q I hb hf hq => by
  refine qa B S H σ ρ _ _ I (by omega) hf fun v H1 S1 ρ1 x I1 m1 c1 r1 h1 => ?_
  refine qb B S1 H1 σ ρ1 _ _ I1 (by have := m1.lo; omega) h1 fun w H2 S2 ρ2 y I2 m2 c2 r2 h2 => ?_
  have r1' := ROk.later (S' := S2) (H' := H2) r1 m2 (okK_use hk c2)
  refine hs B S2 H2 σ ρ2 ka kb v w x y _ Q I2 r1' r2 h2 fun z H3 S3 d I3 m3 r3 h3 => ?_
  exact hq z H3 S3 ρ2 d I3 ((m1.trans m2).t0 m3) (fun z => by
    have := Bool.and_eq_true_iff.mp z
    rw [c2 this.2, c1 this.1]) r3 h3
theorem e_op {op : Operator} {r : R2} {g} (ho : OpR X (binaryOp op) r) (hs : R2s G X O r g k) (ha : PDe G X O a ka ca na fa) (hb : PDe G X O b kb cb nb fb) (hk : okK ka cb = true := by rfl) :
    PDe G X O (.BinOp a op b pos) k (ca && cb) (na + nb) (fOp g fa fb) := by
  obtain ⟨ta, pa, qa⟩ := ha.run
  obtain ⟨tb, pb, qb⟩ := hb.run
  exact ⟨_, pe_op ho pa pb, e_opT hs hk qa qb⟩
theorem e_cmp {op : CmpOp} {r : R2} {g} (ho : OpR X (compareOp op) r) (hs : R2s G X O r g k) (ha : PDe G X O a ka ca na fa) (hb : PDe G X O b kb cb nb fb) (hk : okK ka cb = true := by rfl) (hm : behindInMarks op b = false := by rfl) :
    PDe G X O (.Compare a [op] [b] pos) k (ca && cb) (na + nb) (fOp g fa fb) := by
  obtain ⟨ta, pa, qa⟩ := ha.run
  obtain ⟨tb, pb, qb⟩ := hb.run
  exact ⟨_, pe_cmpR ho pa pb hm, e_opT hs hk qa qb⟩
def R1s (G : Glob) (X : Cx) (O : XO) (r : V → Hp → VK → Prop) (g : D → (D → Prop) → Prop) (k : Kd) : Prop :=
  ∀ (B : Bs) (S : Fz) (H : Hp) (σ : L2.St) (ρ : EnvD) (ka : Kd) (v : V) (x : D) (Kc : D → Prop) (Q : VK), Eok G X.K O B S H σ ρ → ROk G X.K B S H σ ρ v x ka → g x Kc →
    (∀ z H' S' d, Eok G X.K O B S' H' σ ρ → Sub 0 S S' → ROk G X.K B S' H' σ ρ z d k → Kc d → Q z H') → r v H Q
def fUn (g : D → (D → Prop) → Prop) (fa : FE) : FE := fun ρ Kc => fa ρ fun ρ1 x => g x (Kc ρ1)
theorem e_un {op : UnaryOp} {r} {g} (ho : UnR X (unaryOp op) r) (hs : R1s G X O r g k) (ha : PDe G X O a ka ca na fa) : PDe G X O (.UnaryOp op a pos) k ca na (fUn g fa) := by
  obtain ⟨ta, pa, qa⟩ := ha.run
  refine ⟨_, pe_un ho pa, fun B S H σ ρ Kc Q I hb hf hq => ?_⟩
  refine qa B S H σ ρ _ _ I (by omega) hf fun v H1 S1 ρ1 x I1 m1 c1 r1 h1 => ?_
  refine hs B S1 H1 σ ρ1 ka v x _ Q I1 r1 h1 fun z H3 S3 d I3 m3 r3 h3 => ?_
  exact hq z H3 S3 ρ1 d I3 (m1.t0 m3) c1 r3 h3

/-! ### argument lists -/
abbrev FA := EnvD → (EnvD → List D → Prop) → Prop
structure PDa (G : Glob) (X : Cx) (O : XO) (es : List Expr) (c : Bool) (n : Nat) (f : FA) : Prop where
  run : ∃ t : TA, PA X es t ∧ ∀ (B : Bs) (S : Fz) (H : Hp) (σ : L2.St) (ρ : EnvD) (Kc : EnvD → List D → Prop) (Q : List V → Hp → Prop), Eok G X.K O B S H σ ρ → S.T + n ≤ limT → f ρ Kc →
    (∀ vs H' S' ρ' ds, Eok G X.K O B S' H' σ ρ' → Sub n S S' → (c = true → ρ' = ρ) → DenL G X.K S' vs ds → Kc ρ' ds → Q vs H') → t σ H Q
def fNil : FA := fun ρ Kc => Kc ρ []
def fCons (fa : FE) (fr : FA) : FA := fun ρ Kc => fa ρ fun ρ1 x => fr ρ1 fun ρ2 xs => Kc ρ2 (x :: xs)
theorem a_nil : PDa G X O [] true 0 fNil := ⟨_, pa_nil, fun B S H σ ρ Kc Q I hb hf hq => hq [] H S ρ [] I (Sub.refl _) (fun _ => rfl) .nil hf⟩
theorem a_cons {es : List Expr} {cr : Bool} {nr : Nat} {fr : FA} (ha : PDe G X O a .st ca na fa) (hr : PDa G X O es cr nr fr) (hs : starEach (a :: es) X.env = (false, eval a X.env) :: starEach es X.env := by rfl) :
    PDa G X O (a :: es) (ca && cr) (na + nr) (fCons fa fr) := by
  obtain ⟨ta, pa, qa⟩ := ha.run
  obtain ⟨tb, pb, qb⟩ := hr.run
  refine ⟨_, pa_cons pa pb hs, fun B S H σ ρ Kc Q I hb hf hq => ?_⟩
  refine qa B S H σ ρ _ _ I (by omega) hf fun v H1 S1 ρ1 x I1 m1 c1 r1 h1 => ?_
  refine qb B S1 H1 σ ρ1 _ _ I1 (by have := m1.lo; omega) h1 fun vs H2 S2 ρ2 xs I2 m2 c2 r2 h2 => ?_
  exact hq _ H2 S2 ρ2 _ I2 (m1.trans m2) (fun z => by
    have := Bool.and_eq_true_iff.mp z
    rw [c2 this.2, c1 this.1]) (.cons (Den.mono m2 r1) r2) h2

/-! ### displays -/
def fTup (fa : FA) : FE := fun ρ Kc => fa ρ fun ρ1 xs => xs.length ≤ sizeLine ∧ Kc ρ1 (.tup xs)
def fLst (fa : FA) : FE := fun ρ Kc => fa ρ fun ρ1 xs => xs.length ≤ sizeLine ∧ Kc ρ1 (.lst xs)
theorem e_tup {es : List Expr} {x1} {fa : FA} (h : PDa G X O es c n fa) : PDe G X O (.Tuple es x1 pos) .st c n (fTup fa) := by
  obtain ⟨ta, pa, qa⟩ := h.run
  refine ⟨_, pe_tup pa, fun B S H σ ρ Kc Q I hb hf hq => ?_⟩
  refine qa B S H σ ρ _ _ I (by omega) hf fun vs H1 S1 ρ1 xs I1 m1 c1 r1 h1 => ⟨by rw [r1.length]; exact h1.1, fun p hp => ?_⟩
  obtain ⟨I2, m2⟩ := I1.laysF (u := .tup vs) hp
  exact hq _ _ _ ρ1 _ I2 (m1.t0 m2) c1 (den_tup Fz.put_same (r1.mono m2)) h1.2
theorem e_lst {es : List Expr} {fa : FA} (h : PDa G X O es c n fa) : PDe G X O (.List es pos) .fr c n (fLst fa) := by
  obtain ⟨ta, pa, qa⟩ := h.run
  refine ⟨_, pe_lst pa, fun B S H σ ρ Kc Q I hb hf hq => ?_⟩
  refine qa B S H σ ρ _ _ I (by omega) hf fun vs H1 S1 ρ1 xs I1 m1 c1 r1 h1 => ⟨by rw [r1.length]; exact h1.1, fun p hp => ?_⟩
  obtain ⟨I2, r2⟩ := I1.lays (u := .lst vs) (o := .lst xs) hp ⟨vs, upd_same, r1⟩
  exact hq _ _ _ ρ1 _ I2 m1 c1 r2 h1.2

/-! ### calls of built-ins -/
def CRs (G : Glob) (X : Cx) (O : XO) (r : List V → Hp → VK → Prop) (g : List D → (D → Prop) → Prop) (k : Kd) : Prop :=
  ∀ (B : Bs) (S : Fz) (H : Hp) (σ : L2.St) (ρ : EnvD) (vs : List V) (xs : List D) (Kc : D → Prop) (Q : VK), Eok G X.K O B S H σ ρ → DenL G X.K S vs xs → g xs Kc →
    (∀ z H' S' d, Eok G X.K O B S' H' σ ρ → Sub 0 S S' → ROk G X.K B S' H' σ ρ z d k → Kc d → Q z H') → r vs H Q
def fCB (g : List D → (D → Prop) → Prop) (fa : FA) : FE := fun ρ Kc => fa ρ fun ρ1 xs => g xs (Kc ρ1)
theorem e_cbT {r} {g} {t : TA} {fa : FA} (hs : CRs G X O r g k)
    (q : ∀ (B : Bs) (S : Fz) (H : Hp) (σ : L2.St) (ρ : EnvD) (Kc : EnvD → List D → Prop) (Q : List V → Hp → Prop), Eok G X.K O B S H σ ρ → S.T + n ≤ limT → fa ρ Kc →
    (∀ vs H' S' ρ' ds, Eok G X.K O B S' H' σ ρ' → Sub n S S' → (c = true → ρ' = ρ) → DenL G X.K S' vs ds → Kc ρ' ds → Q vs H') → t σ H Q) :
    ∀ (B : Bs) (S : Fz) (H : Hp) (σ : L2.St) (ρ : EnvD) (Kc : EnvD → D → Prop) (Q : VK), Eok G X.K O B S H σ ρ → S.T + n ≤ limT → fCB g fa ρ Kc →
    (∀ v H' S' ρ' d, Eok G X.K O B S' H' σ ρ' → Sub n S S' → (c = true → ρ' = ρ) → ROk G X.K B S' H' σ ρ' v d k → Kc ρ' d → Q v H') → tCB r t σ H Q := fun B S H σ ρ Kc Q I hb hf hq => by
  refine q B S H σ ρ _ _ I (by omega) hf fun vs H1 S1 ρ1 xs I1 m1 c1 r1 h1 => ?_
  refine hs B S1 H1 σ ρ1 vs xs _ Q I1 r1 h1 fun z H3 S3 d I3 m3 r3 h3 => ?_
  exact hq z H3 S3 ρ1 d I3 (m1.t0 m3) c1 r3 h3
variable {x : Str} {p : Pos} {es : List Expr} {id T : String}
theorem e_callB {r} {g} {fa : FA} (hc : CallR X (.builtin id) r) (hs : CRs G X O r g k) (ha : PDa G X O (e :: es) c n fa) (hm : X.mg x = none) (hg : Gl X x := by rfl) (hv : bootBuiltins x = some (.builtin id) := by rfl) (hn : x ≠ "__name__" := by decide) (hdb : (x == ("__debug__" : Str)) = false := by decide)
    (he : starEach (e :: es) X.env = (false, eval e X.env) :: starEach es X.env := by rfl) (hpl : (backTo pos (starEach es X.env)).any (·.1) = false := by rfl) : PDe G X O (.Call (.Name x p) (e :: es) [] pos) k c n (fCB g fa) := by
  obtain ⟨ta, pa, qa⟩ := ha.run
  exact ⟨_, pe_callB hc hg hm hv pa hn hdb he hpl, e_cbT hs qa⟩
/-- of one operand, of any kind -/
theorem e_callB1 {r : V → Hp → VK → Prop} {r' : List V → Hp → VK → Prop} {g} (hc : CallR X (.builtin id) r') (hr : ∀ v H Q, r v H Q → r' [v] H Q) (hs : R1s G X O r g k) (ha : PDe G X O e ka ca na fa) (hm : X.mg x = none) (hg : Gl X x := by rfl) (hv : bootBuiltins x = some (.builtin id) := by rfl) (hn : x ≠ "__name__" := by decide) (hdb : (x == ("__debug__" : Str)) = false := by decide)
    (he : starEach [e] X.env = (false, eval e X.env) :: starEach [] X.env := by rfl) (hpl : (backTo pos (starEach [] X.env)).any (·.1) = false := by rfl) : PDe G X O (.Call (.Name x p) [e] [] pos) k ca na (fUn g fa) := by
  obtain ⟨ta, pa, qa⟩ := ha.run
  refine ⟨_, pe_callB hc hg hm hv (pa_cons pa pa_nil he) hn hdb he hpl, fun B S H σ ρ Kc Q I hb hf hq => ?_⟩
  refine qa B S H σ ρ _ _ I (by omega) hf fun v H1 S1 ρ1 x I1 m1 c1 r1 h1 => hr _ _ _ ?_
  refine hs B S1 H1 σ ρ1 ka v x _ Q I1 r1 h1 fun z H3 S3 d I3 m3 r3 h3 => ?_
  exact hq z H3 S3 ρ1 d I3 (m1.t0 m3) c1 r3 h3
theorem e_callTy1 {r : V → Hp → VK → Prop} {r' : List V → Hp → VK → Prop} {g} (hc : CallR X (.type T) r') (hr : ∀ v H Q, r v H Q → r' [v] H Q) (hs : R1s G X O r g k) (ha : PDe G X O e ka ca na fa) (hm : X.mg x = none) (hg : Gl X x := by rfl) (hv : bootBuiltins x = some (.type T) := by rfl) (hn : x ≠ "__name__" := by decide) (hdb : (x == ("__debug__" : Str)) = false := by decide)
    (he : starEach [e] X.env = (false, eval e X.env) :: starEach [] X.env := by rfl) (hpl : (backTo pos (starEach [] X.env)).any (·.1) = false := by rfl) : PDe G X O (.Call (.Name x p) [e] [] pos) k ca na (fUn g fa) := by
  obtain ⟨ta, pa, qa⟩ := ha.run
  refine ⟨_, pe_callTy hc hg hm hv (pa_cons pa pa_nil he) hn hdb he hpl, fun B S H σ ρ Kc Q I hb hf hq => ?_⟩
  refine qa B S H σ ρ _ _ I (by omega) hf fun v H1 S1 ρ1 x I1 m1 c1 r1 h1 => hr _ _ _ ?_
  refine hs B S1 H1 σ ρ1 ka v x _ Q I1 r1 h1 fun z H3 S3 d I3 m3 r3 h3 => ?_
  exact hq z H3 S3 ρ1 d I3 (m1.t0 m3) c1 r3 h3
end
end WL

/-! WC: tests, statements, loops over data. -/
namespace WL
open PySem PySem.Spec PyProof.Rows L2
section
variable {G : Glob} {K : PySem.W.Frag} {O : XO} {B : Bs} {S S' : Fz} {H H' : Hp} {σ : L2.St} {ρ : EnvD}
theorem get_set {α : Type} (l : List α) (i j : Nat) (a : α) : (l.set i a)[j]? = if i = j then (if i < l.length then some a else none) else l[j]? := List.getElem?_set
/-- slot i is given anew -/
theorem Eok.put {i : Nat} {v : Option V} {s : Option Slot} (I : Eok G K O B S H σ ρ) (hk : O.keep i = false)
    (hi : ∀ d, s = some (.imm d) → ∃ v', v = some v' ∧ Den G K S v' d) (ho : ∀ o, s = some (.own o) → ∃ a, v = some (.ref a) ∧ Own1 G K B S H a o ∧ Nob B σ (ρ.set i none) a) (hse : ∀ c fs, s = some (.own (.ins c fs)) → v = some (.ref B.self)) :
    Eok G K O B S H (σ.set i v) (ρ.set i s) := by
  have el : ∀ (j : Nat) (x : Option Slot) , (ρ.set i s)[j]? = some x → (i = j ∧ x = s ∧ i < ρ.length) ∨ (i ≠ j ∧ ρ[j]? = some x) := fun j x h => by
    rw [get_set] at h
    by_cases e : i = j
    · rw [if_pos e] at h
      by_cases l : i < ρ.length
      · rw [if_pos l] at h; cases h; exact .inl ⟨e, rfl, l⟩
      · rw [if_neg l] at h; cases h
    · rw [if_neg e] at h; exact .inr ⟨e, h⟩
  have ev : ∀ j, i ≠ j → (σ.set i v)[j]? = σ[j]? := fun j e => by rw [get_set, if_neg e]
  have evi : i < ρ.length → (σ.set i v)[i]? = some v := fun l => by rw [get_set, if_pos rfl, if_pos (by rw [I.len]; exact l)]
  have ow' : ∀ j a o, Owns (σ.set i v) (ρ.set i s) j a o → (i = j ∧ v = some (.ref a) ∧ s = some (.own o)) ∨ (i ≠ j ∧ Owns σ ρ j a o) := fun j a o h => by
    rcases el j _ h.1 with ⟨e, q, l⟩ | ⟨e, q⟩
    · subst e
      have := h.2
      rw [evi l] at this
      exact .inl ⟨rfl, Option.some.inj this, q.symm⟩
    · exact .inr ⟨e, q, by rw [← ev j e]; exact h.2⟩
  have nob : ∀ a j o, i ≠ j → Owns σ ρ j a o → Owns σ (ρ.set i none) j a o := fun a j o e h => ⟨by rw [get_set, if_neg e]; exact h.1, h.2⟩
  refine ⟨I.toSta, I.tz, fun n2 cls dx S2 H2 σ2 x t2 l2 m2 k2 d2 => I.xr n2 cls dx S2 H2 σ2 x t2 l2 m2 (fun j hj => ?_) d2, fun j d h => ?_, fun j o h => ?_, fun j l a o o' h1 h2 => ?_, fun j a o e => I.tm j a o e, fun j l a o o' h1 h2 => ?_, I.tt, by rw [List.length_set, List.length_set]; exact I.len, fun j c fs h => by
    rcases el j _ h with ⟨e, q, l⟩ | ⟨e, q⟩
    · subst e; rw [evi l, hse c fs q.symm]
    · rw [ev j e]; exact I.sf j c fs q, fun j hj => by rw [ev j fun z => by rw [z, hj] at hk; cases hk]; exact I.kp j hj⟩
  · rw [k2 j hj, ev j fun z => by rw [z, hj] at hk; cases hk]
  · rcases el j _ h with ⟨e, q, l⟩ | ⟨e, q⟩
    · subst e
      obtain ⟨v', e1, e2⟩ := hi d q.symm
      exact ⟨v', by rw [evi l, e1], e2⟩
    · obtain ⟨v', e1, e2⟩ := I.im j d q
      exact ⟨v', by rw [ev j e]; exact e1, e2⟩
  · rcases el j _ h with ⟨e, q, l⟩ | ⟨e, q⟩
    · subst e
      obtain ⟨a, e1, e2, _⟩ := ho o q.symm
      exact ⟨a, by rw [evi l, e1], e2⟩
    · obtain ⟨a, e1, e2⟩ := I.ow j o q
      exact ⟨a, by rw [ev j e]; exact e1, e2⟩
  · rcases ow' j a o h1 with ⟨e, q1, q2⟩ | ⟨e, q⟩ <;> rcases ow' l a o' h2 with ⟨e', q1', q2'⟩ | ⟨e', q'⟩
    · exact e.symm.trans e'
    · obtain ⟨b, z1, _, n⟩ := ho o q2
      rw [q1] at z1; cases z1
      exact absurd (nob _ _ _ e' q') (n.no l o')
    · obtain ⟨b, z1, _, n⟩ := ho o' q2'
      rw [q1'] at z1; cases z1
      exact absurd (nob _ _ _ e q) (n.no j o)
    · exact I.ap j l a o o' q q'
  · rcases ow' j a o h1 with ⟨e, q1, q2⟩ | ⟨e, q⟩
    · obtain ⟨b, z1, _, n⟩ := ho o q2
      rw [q1] at z1; cases z1
      exact n.nt l o' h2
    · exact I.ta j l a o o' q h2
theorem Nob.less {a : Addr} {i : Nat} (n : Nob B σ ρ a) : Nob B σ (ρ.set i none) a := ⟨fun j o h => by
  have := h.1
  rw [get_set] at this
  by_cases e : i = j
  · rw [if_pos e] at this
    split at this <;> simp at this
  · rw [if_neg e] at this
    exact n.no j o ⟨this, h.2⟩, n.nt⟩
theorem Eok.set {i : Nat} {v : V} {d : D} (I : Eok G K O B S H σ ρ) (hk : O.keep i = false) (h : Den G K S v d) : Eok G K O B S H (σ.set i (some v)) (ρ.set i (some (.imm d))) :=
  I.put hk (fun d' e => by cases e; exact ⟨v, rfl, h⟩) (fun o e => by cases e) (fun c fs e => by cases e)
theorem Eok.setO {i : Nat} {v : V} {o : Own} (I : Eok G K O B S H σ ρ) (hk : O.keep i = false) (hc : o.con = true) (h : ROk G K B S H σ ρ v o.d .fr) : Eok G K O B S H (σ.set i (some v)) (ρ.set i (some (.own o))) := by
  obtain ⟨a, o', rfl, e, w, hc', n⟩ := h
  obtain rfl := Own.d_inj hc hc' e
  exact I.put hk (fun d' e => by cases e) (fun o2 e => by cases e; exact ⟨a, rfl, w, n.less⟩) (fun c fs e => by cases e; cases hc)
/-- a slot is forgotten -/
theorem Eok.forget {i : Nat} (I : Eok G K O B S H σ ρ) : Eok G K O B S H σ (ρ.set i none) := by
  have el : ∀ (j : Nat) (x : Slot) , (ρ.set i none)[j]? = some (some x) → i ≠ j ∧ ρ[j]? = some (some x) := fun j x h => by
    rw [get_set] at h
    by_cases e : i = j
    · rw [if_pos e] at h
      split at h <;> simp at h
    · rw [if_neg e] at h; exact ⟨e, h⟩
  exact ⟨I.toSta, I.tz, I.xr, fun j d h => I.im j d (el j _ h).2, fun j o h => I.ow j o (el j _ h).2, fun j l a o o' h1 h2 => I.ap j l a o o' ⟨(el j _ h1.1).2, h1.2⟩ ⟨(el l _ h2.1).2, h2.2⟩, I.tm,
    fun j l a o o' h1 h2 => I.ta j l a o o' ⟨(el j _ h1.1).2, h1.2⟩ h2, I.tt, by rw [List.length_set]; exact I.len, fun j c fs h => I.sf j c fs (el j _ h).2, I.kp⟩
/-- the container of a slot, taken out of it -/
theorem Eok.take {i : Nat} {a : Addr} {o : Own} (I : Eok G K O B S H σ ρ) (h : Owns σ ρ i a o) : Own1 G K B S H a o ∧ Nob B σ (ρ.set i none) a := by
  refine ⟨Owns.at I h, fun j o' w => ?_, fun j o' e => I.ta i j a o o' h e⟩
  have := w.1
  rw [get_set] at this
  by_cases e : i = j
  · rw [if_pos e] at this
    split at this <;> simp at this
  · rw [if_neg e] at this
    exact e (I.ap i j a o o' h ⟨this, w.2⟩)
/-- the container of a slot is frozen there -/
theorem Eok.still {i : Nat} {o : Own} (I : Eok G K O B S H σ ρ) (hf : o.full G) (h : ρ[i]? = some (some (.own o))) : ∃ S', Eok G K O B S' H σ (ρ.set i (some (.imm o.d))) ∧ Sub 0 S S' := by
  obtain ⟨a, e, _⟩ := I.ow i o h
  obtain ⟨w, n⟩ := I.take (i := i) (a := a) ⟨h, e⟩
  obtain ⟨S', I', m, d⟩ := I.forget.freeze w hf n
  refine ⟨S', ?_, m⟩
  have es : ∀ j, (ρ.set i (some (Slot.imm o.d)))[j]? = if i = j then (if i < ρ.length then some (some (Slot.imm o.d)) else none) else ρ[j]? := fun j => get_set _ _ _ _
  have en : ∀ j, i ≠ j → (ρ.set i none)[j]? = ρ[j]? := fun j z => by rw [get_set, if_neg z]
  have own : ∀ j b o', Owns σ (ρ.set i (some (.imm o.d))) j b o' → Owns σ (ρ.set i none) j b o' := fun j b o' h => by
    have q := h.1
    rw [es] at q
    by_cases z : i = j
    · rw [if_pos z] at q
      split at q <;> simp at q
    · rw [if_neg z] at q
      exact ⟨by rw [en j z]; exact q, h.2⟩
  refine ⟨I'.toSta, I'.tz, I'.xr, fun j d' q => ?_, fun j o' q => ?_, fun j l b o1 o2 h1 h2 => I'.ap j l b o1 o2 (own _ _ _ h1) (own _ _ _ h2), I'.tm, fun j l b o1 o2 h1 h2 => I'.ta j l b o1 o2 (own _ _ _ h1) h2, I'.tt, by rw [List.length_set]; exact I.len, fun j c fs q => by
    rw [es] at q
    by_cases z : i = j
    · rw [if_pos z] at q
      split at q <;> simp at q
    · rw [if_neg z] at q
      exact I'.sf j c fs (by rw [en j z]; exact q), I'.kp⟩
  · rw [es] at q
    by_cases z : i = j
    · rw [if_pos z] at q
      split at q
      · simp at q; subst q; rw [← z]; exact ⟨_, e, d⟩
      · simp at q
    · rw [if_neg z] at q
      exact I'.im j d' (by rw [en j z]; exact q)
  · rw [es] at q
    by_cases z : i = j
    · rw [if_pos z] at q
      split at q <;> simp at q
    · rw [if_neg z] at q
      exact I'.ow j o' (by rw [en j z]; exact q)
end

/-! ### tests -/
abbrev FT := EnvD → (EnvD → Bool → Prop) → Prop
structure PDt (G : Glob) (X : Cx) (O : XO) (e : Expr) (c : Bool) (n : Nat) (f : FT) : Prop where
  run : ∃ t : TT, PT X e t ∧ ∀ (B : Bs) (S : Fz) (H : Hp) (σ : L2.St) (ρ : EnvD) (Kc : EnvD → Bool → Prop) (Q : Bool → Hp → Prop), Eok G X.K O B S H σ ρ → S.T + n ≤ limT → f ρ Kc →
    (∀ b H' S' ρ', Eok G X.K O B S' H' σ ρ' → Sub n S S' → (c = true → ρ' = ρ) → Kc ρ' b → Q b H') → t σ H Q
structure PDw (G : Glob) (X : Cx) (O : XO) (e : Expr) (c : Bool) (n : Nat) (f : FT) : Prop where
  run : ∃ t : TT, PW X e t ∧ ∀ (B : Bs) (S : Fz) (H : Hp) (σ : L2.St) (ρ : EnvD) (Kc : EnvD → Bool → Prop) (Q : Bool → Hp → Prop), Eok G X.K O B S H σ ρ → S.T + n ≤ limT → f ρ Kc →
    (∀ b H' S' ρ', Eok G X.K O B S' H' σ ρ' → Sub n S S' → (c = true → ρ' = ρ) → Kc ρ' b → Q b H') → t σ H Q
def isB (d : D) (P : Bool → Prop) : Prop := match d with
  | .bl b => P b
  | _ => False
theorem isB_inv {d : D} {P : Bool → Prop} (h : isB d P) : ∃ b, d = .bl b ∧ P b := by
  cases d <;> first | exact ⟨_, rfl, h⟩ | exact h.elim
def fT (f : FE) : FT := fun ρ Kc => f ρ fun ρ' d => isB d (Kc ρ')
section
variable {G : Glob} {X : Cx} {O : XO} {e a b : Expr} {k ka kb : Kd} {c ca cb : Bool} {n na nb nc : Nat} {f fa fb : FE} {g ga gb : FT} {pos : Pos} {rest : List Expr}
theorem t_test {t : TE} (q : ∀ (B : Bs) (S : Fz) (H : Hp) (σ : L2.St) (ρ : EnvD) (Kc : EnvD → D → Prop) (Q : VK), Eok G X.K O B S H σ ρ → S.T + n ≤ limT → f ρ Kc → (∀ v H' S' ρ' d, Eok G X.K O B S' H' σ ρ' → Sub n S S' → (c = true → ρ' = ρ) → ROk G X.K B S' H' σ ρ' v d k → Kc ρ' d → Q v H') → t σ H Q)
    {t' : TT} (ht : ∀ σ H Q, t σ H (fun x H' => ∃ k, x = .bl k ∧ Q k H') → t' σ H Q) :
    ∀ (B : Bs) (S : Fz) (H : Hp) (σ : L2.St) (ρ : EnvD) (Kc : EnvD → Bool → Prop) (Q : Bool → Hp → Prop), Eok G X.K O B S H σ ρ → S.T + n ≤ limT → fT f ρ Kc →
    (∀ b H' S' ρ', Eok G X.K O B S' H' σ ρ' → Sub n S S' → (c = true → ρ' = ρ) → Kc ρ' b → Q b H') → t' σ H Q := fun B S H σ ρ Kc Q I hb hf hq => by
  refine ht _ _ _ (q B S H σ ρ _ _ I (by omega) hf fun v H1 S1 ρ1 d I1 m1 c1 r1 h1 => ?_)
  obtain ⟨b, rfl, h1'⟩ := isB_inv h1; replace h1 := h1'; clear h1'
  exact ⟨b, r1.bl I1, hq b H1 S1 ρ1 I1 m1 c1 h1⟩
theorem t_cmp {op : CmpOp} {r : R2} {g} (ho : OpR X (compareOp op) r) (hs : R2s G X O r g k) (ha : PDe G X O a ka ca na fa) (hb : PDe G X O b kb cb nb fb) (hk : okK ka cb = true := by rfl) (hm : behindInMarks op b = false := by rfl) :
    PDt G X O (.Compare a [op] [b] pos) (ca && cb) (na + nb) (fT (fOp g fa fb)) := by
  obtain ⟨ta, pa, qa⟩ := ha.run
  obtain ⟨tb, pb, qb⟩ := hb.run
  exact ⟨_, pt_cmpR ho pa pb hm, t_test (e_opT hs hk qa qb) fun _ _ _ h => h⟩
theorem t_val (h : PDe G X O e k c n f) (he : ∀ whole, isTrue e X.env whole = (do let v ← whole; standAt e.pos; holding [v] (truthy v)) := by intro _; rfl) : PDt G X O e c n (fT f) := by
  obtain ⟨t, p, q⟩ := h.run
  exact ⟨_, pt_val p he, t_test q fun _ _ _ h => h⟩
def fNot (g : FT) : FT := fun ρ Kc => g ρ fun ρ' b => Kc ρ' (!b)
theorem t_not (h : PDt G X O a c n g) : PDt G X O (.UnaryOp .Not a pos) c n (fNot g) := by
  obtain ⟨t, p, q⟩ := h.run
  refine ⟨_, pt_not p, fun B S H σ ρ Kc Q I hb hf hq => ?_⟩
  exact q B S H σ ρ _ _ I (by omega) hf fun b H1 S1 ρ1 I1 m1 c1 h1 => hq _ H1 S1 ρ1 I1 m1 c1 h1
def fAnd (ga gb : FT) : FT := fun ρ Kc => ga ρ fun ρ1 b => if b = true then gb ρ1 Kc else Kc ρ1 false
def fOr (ga gb : FT) : FT := fun ρ Kc => ga ρ fun ρ1 b => if b = true then Kc ρ1 true else gb ρ1 Kc
theorem w_and1 (h : PDt G X O a c n g) : PDw G X O (.BoolOp .And [a] pos) c n g := by
  obtain ⟨t, p, q⟩ := h.run
  exact ⟨_, pw_and1 p, q⟩
theorem w_or1 (h : PDt G X O a c n g) : PDw G X O (.BoolOp .Or [a] pos) c n g := by
  obtain ⟨t, p, q⟩ := h.run
  exact ⟨_, pw_or1 p, q⟩
theorem w_and (ha : PDt G X O a ca na ga) (hb : PDw G X O (.BoolOp .And (b :: rest) pos) cb nb gb) : PDw G X O (.BoolOp .And (a :: b :: rest) pos) (ca && cb) (na + nb) (fAnd ga gb) := by
  obtain ⟨ta, pa, qa⟩ := ha.run
  obtain ⟨tb, pb, qb⟩ := hb.run
  refine ⟨_, pw_and pa pb, fun B S H σ ρ Kc Q I hb hf hq => ?_⟩
  refine qa B S H σ ρ _ _ I (by omega) hf fun b H1 S1 ρ1 I1 m1 c1 h1 => ?_
  have cc : ∀ {z}, (ca && cb) = true → (cb = true → z = ρ1) → z = ρ := fun h hz => by
    have := Bool.and_eq_true_iff.mp h
    rw [hz this.2, c1 this.1]
  cases b with
  | true =>
    rw [if_pos rfl] at h1 ⊢
    exact qb B S1 H1 σ ρ1 _ _ I1 (by have := m1.lo; omega) h1 fun b H2 S2 ρ2 I2 m2 c2 h2 => hq b H2 S2 ρ2 I2 (m1.trans m2) (fun z => cc z c2) h2
  | false =>
    rw [if_neg (by decide)] at h1 ⊢
    exact hq _ H1 S1 ρ1 I1 (m1.up (Nat.le_add_right _ _)) (fun z => c1 (Bool.and_eq_true_iff.mp z).1) h1
theorem w_or (ha : PDt G X O a ca na ga) (hb : PDw G X O (.BoolOp .Or (b :: rest) pos) cb nb gb) : PDw G X O (.BoolOp .Or (a :: b :: rest) pos) (ca && cb) (na + nb) (fOr ga gb) := by
  obtain ⟨ta, pa, qa⟩ := ha.run
  obtain ⟨tb, pb, qb⟩ := hb.run
  refine ⟨_, pw_or pa pb, fun B S H σ ρ Kc Q I hb hf hq => ?_⟩
  refine qa B S H σ ρ _ _ I (by omega) hf fun b H1 S1 ρ1 I1 m1 c1 h1 => ?_
  have cc : ∀ {z}, (ca && cb) = true → (cb = true → z = ρ1) → z = ρ := fun h hz => by
    have := Bool.and_eq_true_iff.mp h
    rw [hz this.2, c1 this.1]
  cases b with
  | false =>
    rw [if_neg (by decide)] at h1 ⊢
    exact qb B S1 H1 σ ρ1 _ _ I1 (by have := m1.lo; omega) h1 fun b H2 S2 ρ2 I2 m2 c2 h2 => hq b H2 S2 ρ2 I2 (m1.trans m2) (fun z => cc z c2) h2
  | true =>
    rw [if_pos rfl] at h1 ⊢
    exact hq _ H1 S1 ρ1 I1 (m1.up (Nat.le_add_right _ _)) (fun z => c1 (Bool.and_eq_true_iff.mp z).1) h1
theorem t_w (h : PDw G X O e c n g) : PDt G X O e c n g := by
  obtain ⟨t, p, q⟩ := h.run
  exact ⟨_, p.pt, q⟩
/-- a chain of two comparisons -/
def fChain (g1 g2 : D → D → (D → Prop) → Prop) (fa fb fc : FE) : FE := fun ρ Kc => fa ρ fun ρ1 x => fb ρ1 fun ρ2 y => g1 x y fun z => isB z fun b => if b = true then fc ρ2 fun ρ3 w => g2 y w (Kc ρ3) else Kc ρ2 (.bl false)
theorem chainT {r r' : R2} {g1 g2} {ce : Expr} {kc : Kd} {cc : Bool} {fc : FE} {ta tb tc : TE} (hs : R2s G X O r g1 .st) (hs' : R2s G X O r' g2 .st)
    (qa : ∀ (B : Bs) (S : Fz) (H : Hp) (σ : L2.St) (ρ : EnvD) (Kc : EnvD → D → Prop) (Q : VK), Eok G X.K O B S H σ ρ → S.T + na ≤ limT → fa ρ Kc → (∀ v H' S' ρ' d, Eok G X.K O B S' H' σ ρ' → Sub na S S' → (ca = true → ρ' = ρ) → ROk G X.K B S' H' σ ρ' v d .st → Kc ρ' d → Q v H') → ta σ H Q)
    (qb : ∀ (B : Bs) (S : Fz) (H : Hp) (σ : L2.St) (ρ : EnvD) (Kc : EnvD → D → Prop) (Q : VK), Eok G X.K O B S H σ ρ → S.T + nb ≤ limT → fb ρ Kc → (∀ v H' S' ρ' d, Eok G X.K O B S' H' σ ρ' → Sub nb S S' → (cb = true → ρ' = ρ) → ROk G X.K B S' H' σ ρ' v d .st → Kc ρ' d → Q v H') → tb σ H Q)
    (qc : ∀ (B : Bs) (S : Fz) (H : Hp) (σ : L2.St) (ρ : EnvD) (Kc : EnvD → D → Prop) (Q : VK), Eok G X.K O B S H σ ρ → S.T + nc ≤ limT → fc ρ Kc → (∀ v H' S' ρ' d, Eok G X.K O B S' H' σ ρ' → Sub nc S S' → (cc = true → ρ' = ρ) → ROk G X.K B S' H' σ ρ' v d .st → Kc ρ' d → Q v H') → tc σ H Q) :
    ∀ (B : Bs) (S : Fz) (H : Hp) (σ : L2.St) (ρ : EnvD) (Kc : EnvD → D → Prop) (Q : VK), Eok G X.K O B S H σ ρ → S.T + (na + nb + nc) ≤ limT → fChain g1 g2 fa fb fc ρ Kc →
    (∀ v H' S' ρ' d, Eok G X.K O B S' H' σ ρ' → Sub (na + nb + nc) S S' → ((ca && cb && cc) = true → ρ' = ρ) → ROk G X.K B S' H' σ ρ' v d .st → Kc ρ' d → Q v H') → tChain r r' ta tb tc σ H Q := fun B S H σ ρ Kc Q I hb hf hq => by
  refine qa B S H σ ρ _ _ I (by omega) hf fun v H1 S1 ρ1 x I1 m1 c1 r1 h1 => ?_
  refine qb B S1 H1 σ ρ1 _ _ I1 (by have := m1.lo; omega) h1 fun w H2 S2 ρ2 y I2 m2 c2 r2 h2 => ?_
  have e2 : (ca && cb) = true → ρ2 = ρ := fun z => by
    have := Bool.and_eq_true_iff.mp z
    rw [c2 this.2, c1 this.1]
  refine hs B S2 H2 σ ρ2 .st .st v w x y _ _ I2 (Den.mono m2 r1) r2 h2 fun z H3 S3 d I3 m3 r3 h3 => ?_
  obtain ⟨b, rfl, h3'⟩ := isB_inv h3; replace h3 := h3'; clear h3'
  refine ⟨b, r3.bl_inv, ?_⟩
  cases b with
  | false =>
    rw [if_neg (by decide)] at h3 ⊢
    exact hq _ H3 S3 ρ2 _ I3 (((m1.trans m2).t0 m3).up (Nat.le_add_right _ _)) (fun z => e2 (Bool.and_eq_true_iff.mp z).1) (Den.bl false) h3
  | true =>
    rw [if_pos rfl] at h3 ⊢
    refine qc B S3 H3 σ ρ2 _ _ I3 (by have := m1.lo; have := m2.lo; have := m3.lo; omega) h3 fun w' H4 S4 ρ4 y' I4 m4 c4 r4 h4 => ?_
    refine hs' B S4 H4 σ ρ4 .st .st w w' y y' _ _ I4 (Den.mono (m3.trans m4) r2) r4 h4 fun z' H5 S5 d' I5 m5 r5 h5 => ?_
    exact hq _ H5 S5 ρ4 _ I5 ((((m1.trans m2).t0 m3).trans m4).t0 m5) (fun z => by
      have := Bool.and_eq_true_iff.mp z
      rw [c4 this.2, e2 this.1]) r5 h5
theorem t_chain {op op' : CmpOp} {r r' : R2} {g1 g2} {ce : Expr} {cc : Bool} {fc : FE} (ho : OpR X (compareOp op) r) (ho' : OpR X (compareOp op') r') (hs : R2s G X O r g1 .st) (hs' : R2s G X O r' g2 .st)
    (ha : PDe G X O a .st ca na fa) (hb : PDe G X O b .st cb nb fb) (hc : PDe G X O ce .st cc nc fc) (hm : lastMarks [op, op'] [b, ce] = false := by rfl) : PDt G X O (.Compare a [op, op'] [b, ce] pos) (ca && cb && cc) (na + nb + nc) (fT (fChain g1 g2 fa fb fc)) := by
  obtain ⟨ta, pa, qa⟩ := ha.run
  obtain ⟨tb, pb, qb⟩ := hb.run
  obtain ⟨tc, pc, qc⟩ := hc.run
  exact ⟨_, by first | exact pt_chain ho ho' pa pb pc | exact pt_chain ho ho' pa pb pc hm, t_test (chainT (ce := ce) (kc := .st) hs hs' qa qb qc) fun _ _ _ h => h⟩

/-! ### and, or, not, if as values -/
def fAndV (fa fb : FE) : FE := fun ρ Kc => fa ρ fun ρ1 x => isB x fun b => if b = true then fb ρ1 Kc else Kc ρ1 (.bl false)
def fOrV (fa fb : FE) : FE := fun ρ Kc => fa ρ fun ρ1 x => isB x fun b => if b = true then Kc ρ1 (.bl true) else fb ρ1 Kc
def fNotV (fa : FE) : FE := fun ρ Kc => fa ρ fun ρ1 x => isB x fun b => Kc ρ1 (.bl !b)
theorem e_one {op} (h : PDe G X O a k c n f) : PDe G X O (.BoolOp op [a] pos) k c n f := by
  obtain ⟨t, p, q⟩ := h.run
  exact ⟨_, pe_one p, q⟩
theorem e_and (ha : PDe G X O a ka ca na fa) (hb : PDe G X O (.BoolOp .And (b :: rest) pos) .st cb nb fb) : PDe G X O (.BoolOp .And (a :: b :: rest) pos) .st (ca && cb) (na + nb) (fAndV fa fb) := by
  obtain ⟨ta, pa, qa⟩ := ha.run
  obtain ⟨tb, pb, qb⟩ := hb.run
  refine ⟨_, pe_and pa pb, fun B S H σ ρ Kc Q I hb hf hq => ?_⟩
  refine qa B S H σ ρ _ _ I (by omega) hf fun v H1 S1 ρ1 x I1 m1 c1 r1 h1 => ?_
  obtain ⟨b, rfl, h1'⟩ := isB_inv h1; replace h1 := h1'; clear h1'
  refine ⟨b, r1.bl I1, ?_⟩
  cases b with
  | true =>
    rw [if_pos rfl] at h1 ⊢
    exact qb B S1 H1 σ ρ1 _ _ I1 (by have := m1.lo; omega) h1 fun b H2 S2 ρ2 d I2 m2 c2 r2 h2 => hq b H2 S2 ρ2 d I2 (m1.trans m2) (fun z => by
      have := Bool.and_eq_true_iff.mp z
      rw [c2 this.2, c1 this.1]) r2 h2
  | false =>
    rw [if_neg (by decide)] at h1 ⊢
    exact hq _ H1 S1 ρ1 _ I1 (m1.up (Nat.le_add_right _ _)) (fun z => c1 (Bool.and_eq_true_iff.mp z).1) (Den.bl false) h1
theorem e_not (ha : PDe G X O a ka ca na fa) : PDe G X O (.UnaryOp .Not a pos) .st ca na (fNotV fa) := by
  obtain ⟨ta, pa, qa⟩ := ha.run
  refine ⟨_, pe_not pa, fun B S H σ ρ Kc Q I hb hf hq => ?_⟩
  refine qa B S H σ ρ _ _ I (by omega) hf fun v H1 S1 ρ1 x I1 m1 c1 r1 h1 => ?_
  obtain ⟨b, rfl, h1'⟩ := isB_inv h1; replace h1 := h1'; clear h1'
  exact ⟨b, r1.bl I1, hq _ H1 S1 ρ1 _ I1 m1 c1 (Den.bl _) h1⟩
def fIf (g : FT) (fa fb : FE) : FE := fun ρ Kc => g ρ fun ρ1 c => if c = true then fa ρ1 Kc else fb ρ1 Kc
theorem e_if {ce : Expr} {cc : Bool} (hc : PDt G X O ce cc nc g) (ha : PDe G X O a k ca na fa) (hb : PDe G X O b k cb nb fb) : PDe G X O (.IfExp ce a b pos) k (cc && (ca && cb)) (nc + max na nb) (fIf g fa fb) := by
  obtain ⟨tc, pc, qc⟩ := hc.run
  obtain ⟨ta, pa, qa⟩ := ha.run
  obtain ⟨tb, pb, qb⟩ := hb.run
  refine ⟨_, pe_ifExp pc pa pb, fun B S H σ ρ Kc Q I hb hf hq => ?_⟩
  refine qc B S H σ ρ _ _ I (by omega) hf fun c H1 S1 ρ1 I1 m1 c1 h1 => ?_
  have cc : ∀ {z : EnvD} {c'}, (cc && (ca && cb)) = true → (c' = true → z = ρ1) → c' = true → z = ρ := fun h hz hc' => by
    rw [hz hc', c1 (Bool.and_eq_true_iff.mp h).1]
  cases c with
  | true =>
    rw [if_pos rfl] at h1 ⊢
    exact qa B S1 H1 σ ρ1 _ _ I1 (by have := m1.lo; omega) h1 fun b H2 S2 ρ2 d I2 m2 c2 r2 h2 => hq b H2 S2 ρ2 d I2 ((m1.trans m2).up (by have := Nat.le_max_left na nb; omega)) (fun z => cc z c2 (Bool.and_eq_true_iff.mp (Bool.and_eq_true_iff.mp z).2).1) r2 h2
  | false =>
    rw [if_neg (by decide)] at h1 ⊢
    exact qb B S1 H1 σ ρ1 _ _ I1 (by have := m1.lo; omega) h1 fun b H2 S2 ρ2 d I2 m2 c2 r2 h2 => hq b H2 S2 ρ2 d I2 ((m1.trans m2).up (by have := Nat.le_max_right na nb; omega)) (fun z => cc z c2 (Bool.and_eq_true_iff.mp (Bool.and_eq_true_iff.mp z).2).2) r2 h2
end
end WL

/-! WD: statements, loops over data, list comprehensions. -/
namespace WL
open PySem PySem.Spec PyProof.Rows L2
structure EndsD where
  nx : EnvD → Prop
  rt : D → Prop
  bk : EnvD → Prop := fun _ => False
  ct : EnvD → Prop := fun _ => False
/-- how a def's answer lies -/
def RtOk (G : Glob) (K : PySem.W.Frag) (B : Bs) (S : Fz) (H : Hp) (v : V) (d : D) : Bool → Prop
  | false => Den G K S v d
  | true => ∃ a o, v = .ref a ∧ d = Own.d o ∧ o.con = true ∧ Own1 G K B S H a o
/-- what the slots lent hold -/
def lentD (ρ : EnvD) : List Nat → Option (List D)
  | [] => some []
  | i :: is => match ρ[i]? with
    | some (some (.own o)) => if o.con = true then (lentD ρ is).map (o.d :: ·) else none
    | _ => none
/-- the ends over data match those over values -/
structure EOk (G : Glob) (K : PySem.W.Frag) (O : XO) (rk : Bool) (n : Nat) (B : Bs) (S : Fz) (Ed : EndsD) (D : Ends) : Prop where
  nx : ∀ σ' H' S' ρ', Eok G K O B S' H' σ' ρ' → Sub n S S' → Ed.nx ρ' → D.nx σ' H'
  rt : O.ln = [] → ∀ v H' S' d, Sta G K B S' H' → Sub n S S' → RtOk G K B S' H' v d rk → Ed.rt d → D.rt v H'
  bk : ∀ σ' H' S' ρ', Eok G K O B S' H' σ' ρ' → Sub n S S' → Ed.bk ρ' → D.bk σ' H'
  ct : ∀ σ' H' S' ρ', Eok G K O B S' H' σ' ρ' → Sub n S S' → Ed.ct ρ' → D.ct σ' H'
  rm : O.ln ≠ [] → ∀ v H' S' σ' ρ' d os, Eok G K O B S' H' σ' ρ' → Sub n S S' → RtOk G K B S' H' v d rk → lentD ρ' O.ln = some os → Ed.rt (.tup (d :: os)) → D.rt v H'
theorem EOk.mono {G K O rk n m B S S' Ed D} (E : EOk G K O rk (n + m) B S Ed D) (h : Sub n S S') : EOk G K O rk m B S' Ed D :=
  ⟨fun σ' H' S2 ρ' I m2 => E.nx σ' H' S2 ρ' I (h.trans m2), fun hl v H' S2 d I m2 => E.rt hl v H' S2 d I (h.trans m2), fun σ' H' S2 ρ' I m2 => E.bk σ' H' S2 ρ' I (h.trans m2), fun σ' H' S2 ρ' I m2 => E.ct σ' H' S2 ρ' I (h.trans m2), fun hl v H' S2 σ' ρ' d os I m2 => E.rm hl v H' S2 σ' ρ' d os I (h.trans m2)⟩
theorem EOk.less {G K O rk n m B S Ed D} (E : EOk G K O rk m B S Ed D) (h : n ≤ m) : EOk G K O rk n B S Ed D :=
  ⟨fun σ' H' S2 ρ' I m2 => E.nx σ' H' S2 ρ' I (m2.up h), fun hl v H' S2 d I m2 => E.rt hl v H' S2 d I (m2.up h), fun σ' H' S2 ρ' I m2 => E.bk σ' H' S2 ρ' I (m2.up h), fun σ' H' S2 ρ' I m2 => E.ct σ' H' S2 ρ' I (m2.up h), fun hl v H' S2 σ' ρ' d os I m2 => E.rm hl v H' S2 σ' ρ' d os I (m2.up h)⟩
theorem EOk.mono0 {G K O rk n B S S' Ed D} (E : EOk G K O rk n B S Ed D) (h : Sub 0 S S') : EOk G K O rk n B S' Ed D := EOk.mono (n := 0) (E.less (Nat.le_of_eq (Nat.zero_add n))) h
abbrev FS := EndsD → EnvD → Prop
structure PDs (G : Glob) (X : Cx) (O : XO) (rk : Bool) (st : Stmt) (n : Nat) (g : FS) : Prop where
  run : ∃ t : TS, PS X st t ∧ ∀ (B : Bs) (S : Fz) (H : Hp) (σ : L2.St) (ρ : EnvD) (Ed : EndsD) (D : Ends), Eok G X.K O B S H σ ρ → S.T + n ≤ limT → g Ed ρ → EOk G X.K O rk n B S Ed D → t D σ H
structure PDb (G : Glob) (X : Cx) (O : XO) (rk : Bool) (st : List Stmt) (n : Nat) (g : FS) : Prop where
  run : ∃ t : TS, PSs X st t ∧ ∀ (B : Bs) (S : Fz) (H : Hp) (σ : L2.St) (ρ : EnvD) (Ed : EndsD) (D : Ends), Eok G X.K O B S H σ ρ → S.T + n ≤ limT → g Ed ρ → EOk G X.K O rk n B S Ed D → t D σ H
section
variable {G : Glob} {X : Cx} {O : XO} {rk : Bool} {st : Stmt} {rest : List Stmt} {g g1 g2 : FS} {e : Expr} {k : Kd} {c : Bool} {n n1 n2 : Nat} {f : FE} {pos : Pos}
def fNext : FS := fun Ed ρ => Ed.nx ρ
def fSeq (g1 g2 : FS) : FS := fun Ed ρ => g1 { Ed with nx := g2 Ed } ρ
theorem b_nil : PDb G X O rk [] 0 fNext := ⟨_, pss_nil, fun B S H σ ρ Ed D I hb h E => E.nx _ _ _ _ I (Sub.refl _) h⟩
theorem b_cons (h1 : PDs G X O rk st n1 g1) (h2 : PDb G X O rk rest n2 g2) : PDb G X O rk (st :: rest) (n1 + n2) (fSeq g1 g2) := by
  obtain ⟨t1, p1, q1⟩ := h1.run
  obtain ⟨t2, p2, q2⟩ := h2.run
  refine ⟨_, pss_cons p1 p2, fun B S H σ ρ Ed D I hb h E => ?_⟩
  have E1 := E.less (Nat.le_add_right n1 n2)
  exact q1 B S H σ ρ _ _ I (by omega) h ⟨fun σ' H' S' ρ' I' m hh => q2 B S' H' σ' ρ' _ _ I' (by have := m.lo; omega) hh (E.mono m), E1.rt, E1.bk, E1.ct, E1.rm⟩
theorem b_one (h1 : PDs G X O rk st n g1) : PDb G X O rk [st] n g1 := by
  obtain ⟨t1, p1, q1⟩ := h1.run
  exact ⟨_, pss_one p1, q1⟩
def fBrk : FS := fun Ed ρ => Ed.bk ρ
def fCnt : FS := fun Ed ρ => Ed.ct ρ
theorem s_continue : PDs G X O rk (.Continue pos) 0 fCnt := ⟨_, ps_continue, fun B S H σ ρ Ed D I hb h E => E.ct _ _ _ _ I (Sub.refl _) h⟩
/-- the container of slot i is frozen from here on -/
def fStill (i : Nat) (g : FS) : FS := fun Ed ρ => ∃ o, ρ[i]? = some (some (.own o)) ∧ o.con = true ∧ g Ed (ρ.set i (some (.imm o.d)))
theorem b_still (i : Nat) (h : PDb G X O rk rest n g) : PDb G X O rk rest n (fStill i g) := by
  obtain ⟨t1, p1, q1⟩ := h.run
  refine ⟨_, p1, fun B S H σ ρ Ed D I hb h E => ?_⟩
  obtain ⟨o, e, hc, h⟩ := h
  obtain ⟨S', I', m⟩ := I.still (Own.con_full hc) e
  exact q1 B S' H σ _ _ _ I' (by have := m.lo; omega) h (E.mono0 m)
def fDrop (f : FE) : FS := fun Ed ρ => f ρ fun ρ' _ => Ed.nx ρ'
theorem s_expr (h : PDe G X O e k c n f) (hs : swapsWith e none pos.line X.env = pure false := by rfl) : PDs G X O rk (.Expr e pos) n (fDrop f) := by
  obtain ⟨t1, p1, q1⟩ := h.run
  refine ⟨_, ps_expr p1 hs, fun B S H σ ρ Ed D I hb h E => ?_⟩
  exact q1 B S H σ ρ _ _ I (by omega) h fun v H1 S1 ρ1 d I1 m1 c1 r1 h1 => E.nx _ _ _ _ I1 m1 h1
def fRet (f : FE) : FS := fun Ed ρ => f ρ fun _ d => Ed.rt d
theorem ROk.frozen {K : PySem.W.Frag} {B : Bs} {S : Fz} {H : Hp} {σ : L2.St} {ρ : EnvD} {v : V} {d : D} (I : Eok G K O B S H σ ρ) (r : ROk G K B S H σ ρ v d k) : ∃ S', Sta G K B S' H ∧ Sub 0 S S' ∧ Den G K S' v d := by
  cases k with
  | st => exact ⟨S, I.toSta, Sub.refl _, r⟩
  | fr =>
    obtain ⟨S', I', m, d'⟩ := r.freeze I
    exact ⟨S', I'.toSta, m, d'⟩
  | bo i =>
    obtain ⟨a, o, rfl, rfl, w, hc⟩ := r
    obtain ⟨w1, n⟩ := I.take w
    obtain ⟨S', I', m, d'⟩ := (I.forget (i := i)).freeze w1 (Own.con_full hc) n
    exact ⟨S', I'.toSta, m, d'⟩
theorem s_ret (h : PDe G X O e k c n f) (hl : O.ln = [] := by rfl) : PDs G X O false (.Return (some e) pos) n (fRet f) := by
  obtain ⟨t1, p1, q1⟩ := h.run
  refine ⟨_, ps_ret p1, fun B S H σ ρ Ed D I hb h E => ?_⟩
  refine q1 B S H σ ρ _ _ I (by omega) h fun v H1 S1 ρ1 d I1 m1 c1 r1 h1 => ?_
  obtain ⟨S2, t2, m2, d2⟩ := r1.frozen I1
  exact E.rt hl _ _ _ _ t2 (m1.t0 m2) d2 h1
/-- .. where what is handed back is the caller's own -/
theorem s_retF (h : PDe G X O e k c n f) (hk : decide (k = .st) = false := by rfl) (hl : O.ln = [] := by rfl) : PDs G X O true (.Return (some e) pos) n (fRet f) := by
  obtain ⟨t1, p1, q1⟩ := h.run
  refine ⟨_, ps_ret p1, fun B S H σ ρ Ed D I hb h E => ?_⟩
  refine q1 B S H σ ρ _ _ I (by omega) h fun v H1 S1 ρ1 d I1 m1 c1 r1 h1 => ?_
  refine E.rt hl _ _ _ _ I1.toSta m1 ?_ h1
  cases k with
  | st => exact absurd hk (by decide)
  | fr =>
    obtain ⟨a, o, e1, e2, w, hc, _⟩ := r1
    exact ⟨a, o, e1, e2, hc, w⟩
  | bo i =>
    obtain ⟨a, o, e1, e2, w, hc⟩ := r1
    exact ⟨a, o, e1, e2, hc, Owns.at I1 w⟩
def fRetN : FS := fun Ed _ => Ed.rt .non
def fIfS (t : FT) (g1 g2 : FS) : FS := fun Ed ρ => t ρ fun ρ1 b => if b = true then g1 Ed ρ1 else g2 Ed ρ1
theorem s_if {ce : Expr} {cc : Bool} {t : FT} {a b : List Stmt} (hc : PDt G X O ce cc n t) (h1 : PDb G X O rk a n1 g1) (h2 : PDb G X O rk b n2 g2) : PDs G X O rk (.If ce a b pos) (n + max n1 n2) (fIfS t g1 g2) := by
  obtain ⟨tc, pc, qc⟩ := hc.run
  obtain ⟨t1, p1, q1⟩ := h1.run
  obtain ⟨t2, p2, q2⟩ := h2.run
  refine ⟨_, ps_if pc p1 p2, fun B S H σ ρ Ed D I hb h E => ?_⟩
  refine qc B S H σ ρ _ _ I (by omega) h fun b H1 S1 ρ1 I1 m1 c1 h1 => ?_
  cases b with
  | true =>
    rw [if_pos rfl] at h1 ⊢
    exact q1 B S1 H1 σ ρ1 _ _ I1 (by have := m1.lo; omega) h1 ((E.mono m1).less (Nat.le_max_left _ _))
  | false =>
    rw [if_neg (by decide)] at h1 ⊢
    exact q2 B S1 H1 σ ρ1 _ _ I1 (by have := m1.lo; omega) h1 ((E.mono m1).less (Nat.le_max_right _ _))
/-- x = e, a frozen thing -/
def fSet (i : Nat) (f : FE) : FS := fun Ed ρ => f ρ fun ρ' d => Ed.nx (ρ'.set i (some (.imm d)))
theorem s_set (i : Nat) {x : Str} {pos' : Pos} (h : PDe G X O e .st c n f) (hN : X.N.Nodup) (hk : O.keep i = false := by rfl) (hi : X.N[i]? = some x := by rfl) (hx : Loc X.env.scope x := by first | exact Or.inl rfl | exact Or.inr rfl)
    (hs : swapsWith e (some (.Name x pos')) pos.line X.env = pure false := by rfl) (hf : X.fn x = true ∨ X.env.scope.names.lookup x = some .local := by first | exact .inl rfl | exact .inr rfl) : PDs G X O rk (.Assign [.Name x pos'] e pos) n (fSet i f) := by
  obtain ⟨t1, p1, q1⟩ := h.run
  refine ⟨_, ps_set hN hi hx p1 hs hf, fun B S H σ ρ Ed D I hb h E => ?_⟩
  exact q1 B S H σ ρ _ _ I (by omega) h fun v H1 S1 ρ1 d I1 m1 c1 r1 h1 => E.nx _ _ _ _ (I1.set hk r1) m1 h1
def ownOf (d : D) (P : Own → Prop) : Prop := match d with
  | .lst xs => P (.lst xs)
  | .dct ps => P (.dct ps)
  | _ => False
theorem ownOf_inv {d : D} {P : Own → Prop} (h : ownOf d P) : ∃ o : Own, d = o.d ∧ o.con = true ∧ P o := by
  cases d <;> first | exact ⟨.lst _, rfl, rfl, h⟩ | exact ⟨.dct _, rfl, rfl, h⟩ | exact h.elim
/-- x = e, a container of one's own -/
def fSetO (i : Nat) (f : FE) : FS := fun Ed ρ => f ρ fun ρ' d => ownOf d fun o => Ed.nx (ρ'.set i (some (.own o)))
theorem s_setO (i : Nat) {x : Str} {pos' : Pos} (h : PDe G X O e .fr c n f) (hN : X.N.Nodup) (hk : O.keep i = false := by rfl) (hi : X.N[i]? = some x := by rfl) (hx : Loc X.env.scope x := by first | exact Or.inl rfl | exact Or.inr rfl)
    (hs : swapsWith e (some (.Name x pos')) pos.line X.env = pure false := by rfl) (hf : X.fn x = true ∨ X.env.scope.names.lookup x = some .local := by first | exact .inl rfl | exact .inr rfl) : PDs G X O rk (.Assign [.Name x pos'] e pos) n (fSetO i f) := by
  obtain ⟨t1, p1, q1⟩ := h.run
  refine ⟨_, ps_set hN hi hx p1 hs hf, fun B S H σ ρ Ed D I hb h E => ?_⟩
  refine q1 B S H σ ρ _ _ I (by omega) h fun v H1 S1 ρ1 d I1 m1 c1 r1 h1 => ?_
  obtain ⟨o, rfl, hc, h2⟩ := ownOf_inv h1
  exact E.nx _ _ _ _ (I1.setO hk hc r1) m1 h2

/-! ### while -/
/-- .. of at most cap rounds, which draw -/
def fWhileN (cap : Nat) (t : FT) (gb : FS) : FS := fun Ed ρ => ∃ W : Nat → EnvD → Prop, (∃ m, m ≤ cap ∧ W m ρ) ∧ ∀ m ρ, W m ρ → t ρ fun ρ1 b =>
  if b = true then gb { nx := fun ρ2 => ∃ m', m' < m ∧ W m' ρ2, ct := fun ρ2 => ∃ m', m' < m ∧ W m' ρ2, bk := Ed.nx, rt := Ed.rt } ρ1 else Ed.nx ρ1
theorem s_whileN (cap : Nat) {ce : Expr} {cc : Bool} {t : FT} {body : List Stmt} (hp : PassesOwn (model X.prog X.w) X.A X.env X.xe) (hc : PDt G X O ce cc n1 t) (hb : PDb G X O rk body n2 g) : PDs G X O rk (.While ce body [] pos) ((cap + 1) * (n1 + n2)) (fWhileN cap t g) := by
  obtain ⟨tc, pc, qc⟩ := hc.run
  obtain ⟨t1, p1, q1⟩ := hb.run
  refine ⟨_, ps_while hp pc p1, fun B S H σ ρ Ed D I hb h E => ?_⟩
  obtain ⟨W, ⟨m, hm, w0⟩, hW⟩ := h
  refine ⟨fun m σ' H' => ∃ u S' ρ', Eok G X.K O B S' H' σ' ρ' ∧ Sub u S S' ∧ u + (m + 1) * (n1 + n2) ≤ (cap + 1) * (n1 + n2) ∧ W m ρ', ⟨m, 0, S, ρ, I, Sub.refl _, by rw [Nat.zero_add]; exact Nat.mul_le_mul_right _ (Nat.succ_le_succ hm), w0⟩, ?_⟩
  rintro m σ' H' ⟨u, S', ρ', I', m', hu, w⟩
  have hs : (m + 1) * (n1 + n2) = m * (n1 + n2) + (n1 + n2) := Nat.succ_mul _ _
  refine qc B S' H' σ' ρ' _ _ I' (by have := m'.lo; omega) (hW m ρ' w) fun b H1 S1 ρ1 I1 m1 c1 h1 => ?_
  cases b with
  | false =>
    rw [if_neg (by decide)] at h1 ⊢
    exact E.nx _ _ _ _ I1 ((m'.trans m1).up (by omega)) h1
  | true =>
    rw [if_pos rfl] at h1 ⊢
    refine ⟨fun σ2 H2 => ∃ m2, m2 < m ∧ ∃ u S' ρ', Eok G X.K O B S' H2 σ2 ρ' ∧ Sub u S S' ∧ u + (m2 + 1) * (n1 + n2) ≤ (cap + 1) * (n1 + n2) ∧ W m2 ρ', fun _ _ z => z, ?_⟩
    have lt : ∀ {m2 : Nat}, m2 < m → u + n1 + n2 + (m2 + 1) * (n1 + n2) ≤ (cap + 1) * (n1 + n2) := fun {m2} h => by
      have h2 : (m2 + 1) * (n1 + n2) ≤ m * (n1 + n2) := Nat.mul_le_mul_right _ h
      omega
    have go : ∀ σ2 H2 S2 ρ2, Eok G X.K O B S2 H2 σ2 ρ2 → Sub n2 S1 S2 → (∃ m', m' < m ∧ W m' ρ2) → ∃ m2, m2 < m ∧ ∃ u S' ρ', Eok G X.K O B S' H2 σ2 ρ' ∧ Sub u S S' ∧ u + (m2 + 1) * (n1 + n2) ≤ (cap + 1) * (n1 + n2) ∧ W m2 ρ' :=
      fun σ2 H2 S2 ρ2 I2 m2 ⟨j, hj, w2⟩ => ⟨j, hj, _, S2, ρ2, I2, (m'.trans m1).trans m2, lt hj, w2⟩
    have ls : u + n1 + n2 ≤ (cap + 1) * (n1 + n2) := by omega
    exact q1 B S1 H1 σ' ρ1 _ _ I1 (by have := m1.lo; have := m'.lo; omega) h1 ⟨go, fun hl v H2 S2 d I2 m2 r hr => E.rt hl _ _ _ _ I2 (((m'.trans m1).trans m2).up ls) r hr, fun σ2 H2 S2 ρ2 I2 m2 hb => E.nx _ _ _ _ I2 (((m'.trans m1).trans m2).up ls) hb, go, fun hl v H2 S2 σ3 ρ3 d os I2 m2 => E.rm hl v H2 S2 σ3 ρ3 d os I2 (((m'.trans m1).trans m2).up ls)⟩

/-! ### targets of loops -/
abbrev FG := D → EnvD → (EnvD → Prop) → Prop
/-- slots beside those at sl are as they were -/
def Off (sl : List Nat) (σ σ' : L2.St) (ρ ρ' : EnvD) : Prop := σ'.length = σ.length ∧ ∀ i, i ∉ sl → σ'[i]? = σ[i]? ∧ ρ'[i]? = ρ[i]?
structure PDg (G : Glob) (X : Cx) (O : XO) (tg : Expr) (sl : List Nat) (h : FG) : Prop where
  run : ∃ t : TG, PG X tg t ∧ ∀ (B : Bs) (S : Fz) (H : Hp) (σ : L2.St) (ρ : EnvD) (v : V) (d : D) (Kc : EnvD → Prop) (Q : L2.St → Hp → Prop), Eok G X.K O B S H σ ρ → Den G X.K S v d → h d ρ Kc →
    (∀ σ' ρ', Eok G X.K O B S H σ' ρ' → Off sl σ σ' ρ ρ' → Kc ρ' → Q σ' H) → t v σ H Q
structure PDgs (G : Glob) (X : Cx) (O : XO) (tgs : List Expr) (sl : List Nat) (h : List D → EnvD → (EnvD → Prop) → Prop) : Prop where
  run : ∃ t : TGs, PGs X tgs t ∧ ∀ (B : Bs) (S : Fz) (H : Hp) (σ : L2.St) (ρ : EnvD) (vs : List V) (ds : List D) (Kc : EnvD → Prop) (Q : L2.St → Hp → Prop), Eok G X.K O B S H σ ρ → DenL G X.K S vs ds → h ds ρ Kc →
    (∀ σ' ρ', Eok G X.K O B S H σ' ρ' → Off sl σ σ' ρ ρ' → Kc ρ' → Q σ' H) → t vs σ H Q
def hName (i : Nat) : FG := fun d ρ Kc => Kc (ρ.set i (some (.imm d)))
theorem g_name (i : Nat) {x : Str} (hN : X.N.Nodup) (hk : O.keep i = false := by rfl) (hi : X.N[i]? = some x := by rfl) (hx : Loc X.env.scope x := by first | exact Or.inl rfl | exact Or.inr rfl)
    (hf : X.fn x = true ∨ X.env.scope.names.lookup x = some .local := by first | exact .inl rfl | exact .inr rfl) : PDg G X O (.Name x pos) [i] (hName i) :=
  ⟨_, pg_name hN hi hx hf, fun B S H σ ρ v d Kc Q I r h hq => hq _ _ (I.set hk r) ⟨List.length_set, fun j hj => by
    have : i ≠ j := fun z => hj (by simp [z])
    rw [get_set, get_set, if_neg this, if_neg this]; exact ⟨rfl, rfl⟩⟩ h⟩
def hNil : List D → EnvD → (EnvD → Prop) → Prop := fun ds ρ Kc => match ds with
  | [] => Kc ρ
  | _ => False
def hCons (h : FG) (hr : List D → EnvD → (EnvD → Prop) → Prop) : List D → EnvD → (EnvD → Prop) → Prop := fun ds ρ Kc => match ds with
  | d :: r => h d ρ fun ρ' => hr r ρ' Kc
  | [] => False
theorem gs_nil : PDgs G X O [] [] hNil := ⟨_, pgs_nil, fun B S H σ ρ vs ds Kc Q I r h hq => by
  cases r with
  | nil => exact ⟨rfl, hq _ _ I ⟨rfl, fun _ _ => ⟨rfl, rfl⟩⟩ h⟩
  | cons _ _ => exact h.elim⟩
theorem gs_cons {tg : Expr} {tgs : List Expr} {s1 s2 : List Nat} {h : FG} {hr} (h1 : PDg G X O tg s1 h) (h2 : PDgs G X O tgs s2 hr) (hst : List.map (fun x => x.snd) (assignEach (tg :: tgs) X.env) = assign tg X.env :: List.map (fun x => x.snd) (assignEach tgs X.env) := by rfl) : PDgs G X O (tg :: tgs) (s1 ++ s2) (hCons h hr) := by
  obtain ⟨t1, p1, q1⟩ := h1.run
  obtain ⟨t2, p2, q2⟩ := h2.run
  refine ⟨_, pgs_cons p1 p2 hst, fun B S H σ ρ vs ds Kc Q I r h hq => ?_⟩
  cases r with
  | nil => exact h.elim
  | cons r1 r2 =>
    refine ⟨_, _, rfl, q1 B S H σ ρ _ _ _ _ I r1 h fun σ' ρ' I' of' h' => ?_⟩
    exact q2 B S H σ' ρ' _ _ _ _ I' r2 h' fun σ2 ρ2 I2 of2 h2 => hq σ2 ρ2 I2 ⟨of2.1.trans of'.1, fun i hi => by
      have a := of2.2 i fun z => hi (by simp [z])
      have b := of'.2 i fun z => hi (by simp [z])
      exact ⟨a.1.trans b.1, a.2.trans b.2⟩⟩ h2
def tupOf (n : Nat) (d : D) (P : List D → Prop) : Prop := match d with
  | .tup ds => ds.length = n ∧ P ds
  | _ => False
theorem tupOf_inv {n : Nat} {d : D} {P : List D → Prop} (h : tupOf n d P) : ∃ ds, d = .tup ds ∧ ds.length = n ∧ P ds := by
  cases d <;> first | exact ⟨_, rfl, h⟩ | exact h.elim
def hTup (n : Nat) (hr : List D → EnvD → (EnvD → Prop) → Prop) : FG := fun d ρ Kc => tupOf n d fun ds => hr ds ρ Kc
theorem g_tup {es : List Expr} {kk : Nat} {n : Nat} {sl : List Nat} {hr} (hc : X.calm = true) (h : PDgs G X O es sl hr) (hn : (assignEach es X.env).length = n := by rfl) (hst : (assignEach es X.env).findIdx? (·.1) = none := by rfl) :
    PDg G X O (.Tuple es kk pos) sl (hTup n hr) := by
  obtain ⟨t1, p1, q1⟩ := h.run
  refine ⟨_, pg_tup hc p1 hn hst, fun B S H σ ρ v d Kc Q I r h hq => ?_⟩
  obtain ⟨ds, rfl, hl, h⟩ := tupOf_inv h
  obtain ⟨a, vs, rfl, hs, rs⟩ := r.tup_inv
  exact ⟨a, vs, rfl, SqT.of (I.le _ _ hs), by rw [rs.length]; exact hl, q1 B S H σ ρ vs ds _ _ I rs h hq⟩
/-- a, b, .. = e -/
def fUnp (h : FG) (f : FE) : FS := fun Ed ρ => f ρ fun ρ' d => h d ρ' Ed.nx
theorem s_unp {tg : Expr} {sl : List Nat} {h : FG} (hg : PDg G X O tg sl h) (he : PDe G X O e .st c n f) (hs : swapsWithSole [tg] e pos.line X.env = pure false := by rfl) (hw : swappedStores [tg] e X.env = pure none := by rfl) (h1 : List.map (fun x => x.snd) (assignEach [tg] X.env) = [assign tg X.env] := by rfl) : PDs G X O rk (.Assign [tg] e pos) n (fUnp h f) := by
  obtain ⟨t1, p1, q1⟩ := he.run
  obtain ⟨t2, p2, q2⟩ := hg.run
  refine ⟨_, ps_asg p1 p2 hs hw h1, fun B S H σ ρ Ed D I hb h E => ?_⟩
  refine q1 B S H σ ρ _ _ I (by omega) h fun v H1 S1 ρ1 d I1 m1 c1 r1 h1 => ?_
  exact q2 B S1 H1 σ ρ1 v d _ _ I1 r1 h1 fun σ' ρ' I' _ h' => E.nx _ _ _ _ I' m1 h'

/-! ### what is walked -/
structure ItOk (G : Glob) (K : PySem.W.Frag) (S : Fz) (J : It) (xs : List D) : Prop where
  go : ∀ (m i : Nat) (S2 : Fz) (H : Hp), Sub m S S2 → (∀ a o, S2 a = some o → H a = some o) → G.J S2.T H → i < xs.length → J.go i H
  stop : ∀ (m : Nat) (S2 : Fz) (H : Hp), Sub m S S2 → (∀ a o, S2 a = some o → H a = some o) → G.J S2.T H → J.stop xs.length H
  yld : ∀ (O : XO) (m i : Nat) (B : Bs) (S2 : Fz) (H : Hp) (σ : L2.St) (ρ : EnvD) (x : V) (H' : Hp), Sub m S S2 → Eok G K O B S2 H σ ρ → i < xs.length → J.yld i H x H' → ∃ S3 d, xs[i]? = some d ∧ Eok G K O B S3 H' σ ρ ∧ Sub 0 S2 S3 ∧ Den G K S3 x d
abbrev FI := EnvD → (EnvD → List D → Prop) → Prop
structure PDi (G : Glob) (X : Cx) (O : XO) (tg iter : Expr) (n : Nat) (f : FI) : Prop where
  run : ∃ wi : TI, PI X tg iter wi ∧ ∀ (B : Bs) (S : Fz) (H : Hp) (σ : L2.St) (ρ : EnvD) (Kc : EnvD → List D → Prop) (R : It → Hp → Prop), Eok G X.K O B S H σ ρ → S.T + n ≤ limT → f ρ Kc →
    (∀ J H' S' ρ' xs, Eok G X.K O B S' H' σ ρ' → Sub n S S' → ItOk G X.K S' J xs → Kc ρ' xs → R J H') → wi σ H R
theorem ItOk.mono {n : Nat} {K : PySem.W.Frag} {S S' : Fz} {J : It} {xs : List D} (h : ItOk G K S J xs) (m : Sub n S S') : ItOk G K S' J xs :=
  ⟨fun k i S2 H m2 => h.go _ i S2 H (m.trans m2), fun k S2 H m2 => h.stop _ S2 H (m.trans m2), fun O k i B S2 H σ ρ x H' m2 => h.yld O _ i B S2 H σ ρ x H' (m.trans m2)⟩

def lstOf (d : D) (P : List D → Prop) : Prop := match d with
  | .lst ds => P ds
  | _ => False
theorem lstOf_inv {d : D} {P : List D → Prop} (h : lstOf d P) : ∃ ds, d = .lst ds ∧ P ds := by
  cases d <;> first | exact ⟨_, rfl, h⟩ | exact h.elim
def tupOf' (d : D) (P : List D → Prop) : Prop := match d with
  | .tup ds => P ds
  | _ => False
def strD (x : Str) : List D := x.cps.toList.map fun c => .str ⟨#[c]⟩
/-- what a list, a tuple, a text yields -/
def itOf (d : D) (P : List D → Prop) : Prop := match d with
  | .lst ds => P ds
  | .tup ds => P ds
  | .str x => P (strD x)
  | .wls ds => P ds
  | .wtp ds => P ds
  | _ => False
/-- a list, a tuple, a text, walked -/
theorem pi_any {tg l : Expr} {tl : TE} (hl : PE X l tl) : PI X tg l (fun σ H R => tl σ H fun x H1 => (∃ a, x = .ref a ∧ (∃ xs, SqL X.K H1 a xs) ∧ R (Itl X.K a) H1) ∨ (∃ a, x = .ref a ∧ (∃ xs, SqT X.K H1 a xs) ∧ R (Itt X.K a) H1) ∨ ∃ y, x = .str y ∧ R (Its y) H1) := by
  refine ⟨fun pins s σ H R I h => ?_⟩
  refine thn (hl.run pins s σ H _ I h) fun v s1 ⟨x, H1, I1, r1, q1⟩ => ?_
  rcases q1 with ⟨a, e, ⟨xs, hq⟩, q⟩ | ⟨a, e, ⟨xs, hq⟩, q⟩ | ⟨y, e, q⟩
  · subst e
    cases r1
    obtain ⟨its, rv, p, hz⟩ := I1.list hq
    refine wpAny_pyIter_list p.isList ?_
    refine ⟨s1.heap.objs.size, [s1.heap.objs.size], _, _, H1, rfl, I1.kept (t' := s1.toks) fun b o e => Heap.get?_push_of_some _ e, turn_list a _, ⟨_, Heap.get?_push_size _ rfl, rfl, rfl⟩, fun b hb => ?_, q⟩
    have e : b = s1.heap.objs.size := by simpa using hb
    subst e
    exact I1.fpOk (Nat.le_refl _) (I1.hok.fresh (Nat.le_refl _))
  · subst e
    cases r1
    obtain ⟨its, rv, p, hz⟩ := I1.tuple hq
    refine wpAny_pyIter_tuple (show s1.heap.IsTuple a its.toArray from p) ?_
    refine ⟨s1.heap.objs.size, [s1.heap.objs.size], _, _, H1, rfl, I1.kept (t' := s1.toks) fun b o e => Heap.get?_push_of_some _ e, turn_tuple a _, ⟨_, Heap.get?_push_size _ rfl, rfl, rfl⟩, fun b hb => ?_, q⟩
    have e : b = s1.heap.objs.size := by simpa using hb
    subst e
    exact I1.fpOk (Nat.le_refl _) (I1.hok.fresh (Nat.le_refl _))
  · subst e
    obtain ⟨t, rfl⟩ := r1
    cases ha : y.cps.all (· < 128)
    · exact wpAny_pyIter_wide ha (pi_one (tk := s1.toks) I1 _ (turn_str _ y t "str_iterator" (.inr rfl)) ⟨_, Heap.get?_push_size _ rfl, rfl, rfl⟩ q)
    · exact wpAny_pyIter_ascii ha (pi_one (tk := s1.toks) I1 _ (turn_str _ y t "str_ascii_iterator" (.inl rfl)) ⟨_, Heap.get?_push_size _ rfl, rfl, rfl⟩ q)
theorem paired_some {α β : Type} {F : α → β → Prop} {l₁ : List α} {l₂ : List β} (h : Paired F l₁ l₂) {i : Nat} (hi : i < l₂.length) : ∃ a b, l₁[i]? = some a ∧ l₂[i]? = some b ∧ F a b := by
  have e := h.length
  have h1 : l₁[i]? = some l₁[i] := List.getElem?_eq_getElem (by omega)
  have h2 : l₂[i]? = some l₂[i] := List.getElem?_eq_getElem hi
  exact ⟨_, _, h1, h2, paired_at h i _ _ h1 h2⟩
theorem itOk_list {K : PySem.W.Frag} {S : Fz} {a : Addr} {vs : List V} {xs : List D} (h : S a = some (.lst vs)) (r : DenL G K S vs xs) : ItOk G K S (Itl K a) xs where
  go := fun k i S2 H m l hj hi => by
    obtain ⟨x, d, e1, _, _⟩ := paired_some r hi
    exact ⟨vs, x, .of (l _ _ (m.ot _ _ rfl rfl h)), e1⟩
  stop := fun k S2 H m l hj => ⟨vs, .of (l _ _ (m.ot _ _ rfl rfl h)), Nat.le_of_eq r.length⟩
  yld := fun O k i B S2 H σ ρ x H' m I hi y => by
    obtain ⟨rfl, y⟩ := y
    obtain ⟨x', d, e1, e2, e3⟩ := paired_some r hi
    have := y vs (.of (I.le _ _ (m.ot _ _ rfl rfl h)))
    rw [e1] at this; cases this
    exact ⟨S2, d, e2, I, Sub.refl _, e3.mono m⟩
theorem itOk_tup {K : PySem.W.Frag} {S : Fz} {a : Addr} {vs : List V} {xs : List D} (h : S a = some (.tup vs)) (r : DenL G K S vs xs) : ItOk G K S (Itt K a) xs where
  go := fun k i S2 H m l hj hi => by
    obtain ⟨x, d, e1, _, _⟩ := paired_some r hi
    exact ⟨vs, x, SqT.of (l _ _ (m.ot _ _ rfl rfl h)), e1⟩
  stop := fun k S2 H m l hj => ⟨vs, SqT.of (l _ _ (m.ot _ _ rfl rfl h)), Nat.le_of_eq r.length⟩
  yld := fun O k i B S2 H σ ρ x H' m I hi y => by
    obtain ⟨rfl, y⟩ := y
    obtain ⟨x', d, e1, e2, e3⟩ := paired_some r hi
    have := y vs (SqT.of (I.le _ _ (m.ot _ _ rfl rfl h)))
    rw [e1] at this; cases this
    exact ⟨S2, d, e2, I, Sub.refl _, e3.mono m⟩
theorem itOk_str {K : PySem.W.Frag} {S : Fz} {z : Str} : ItOk G K S (Its z) (strD z) where
  go := fun k i S2 H m l hj hi => by
    show i < z.cps.size
    simpa [strD] using hi
  stop := fun k S2 H m l hj => by
    show z.cps.size ≤ (strD z).length
    simp [strD]
  yld := fun O k i B S2 H σ ρ x H' m I hi y => by
    obtain ⟨rfl, c, e, rfl⟩ := y
    refine ⟨S2, .str ⟨#[c]⟩, ?_, I, Sub.refl _, .str _⟩
    simp [strD, e]
theorem itOk_wls {K : PySem.W.Frag} {S : Fz} {a : Addr} {vs : List V} {xs : List D} (h : (∃ o, S a = some (.frz o (.lst vs))) ∨ ∀ H, SqL K H a vs) (r : DenL G K S vs xs) : ItOk G K S (Itl K a) xs := by
  have up : ∀ (k : Nat) (S2 : Fz) (H : Hp), Sub k S S2 → (∀ a o, S2 a = some o → H a = some o) → SqL K H a vs := fun k S2 H m l => by
    rcases h with ⟨o, h⟩ | h
    · exact .inl (.inr ⟨o, l _ _ (m.ot _ _ rfl rfl h)⟩)
    · exact h H
  refine ⟨fun k i S2 H m l hj hi => ?_, fun k S2 H m l hj => ⟨vs, up k S2 H m l, Nat.le_of_eq r.length⟩, fun O k i B S2 H σ ρ x H' m I hi y => ?_⟩
  · obtain ⟨x, d, e1, _, _⟩ := paired_some r hi
    exact ⟨vs, x, up k S2 H m l, e1⟩
  · obtain ⟨rfl, y⟩ := y
    obtain ⟨x', d, e1, e2, e3⟩ := paired_some r hi
    have := y vs (up k S2 _ m I.le)
    rw [e1] at this; cases this
    exact ⟨S2, d, e2, I, Sub.refl _, e3.mono m⟩
theorem itOk_wtp {K : PySem.W.Frag} {S : Fz} {a : Addr} {vs : List V} {xs : List D} (h : ∀ H, SqT K H a vs) (r : DenL G K S vs xs) : ItOk G K S (Itt K a) xs := by
  refine ⟨fun k i S2 H m l hj hi => ?_, fun k S2 H m l hj => ⟨vs, h H, Nat.le_of_eq r.length⟩, fun O k i B S2 H σ ρ x H' m I hi y => ?_⟩
  · obtain ⟨x, d, e1, _, _⟩ := paired_some r hi
    exact ⟨vs, x, h H, e1⟩
  · obtain ⟨rfl, y⟩ := y
    obtain ⟨x', d, e1, e2, e3⟩ := paired_some r hi
    have := y vs (h _)
    rw [e1] at this; cases this
    exact ⟨S2, d, e2, I, Sub.refl _, e3.mono m⟩
/-- range(n) -/
def rngD (lo : Int) (n : Nat) : List D := (List.range n).map fun i : Nat => D.int (lo + (i : Int))
theorem itOk_rng {K : PySem.W.Frag} {S : Fz} {lo : Int} {n : Nat} : ItOk G K S (Itr lo n) (rngD lo n) where
  go := fun k i S2 H m l hj hi => by
    show i < n
    simpa [rngD] using hi
  stop := fun k S2 H m l hj => by
    show n ≤ (rngD lo n).length
    simp [rngD]
  yld := fun O k i B S2 H σ ρ x H' m I hi y => by
    obtain ⟨rfl, rfl⟩ := y
    have hi' : i < n := by simpa [rngD] using hi
    refine ⟨S2, .int (lo + (i : Int)), ?_, I, Sub.refl _, .int _⟩
    simp [rngD, hi']
def int1 (ds : List D) (P : Int → Prop) : Prop := match ds with
  | [.int i] => P i
  | _ => False
def int2 (ds : List D) (P : Int → Int → Prop) : Prop := match ds with
  | [.int i, .int j] => P i j
  | _ => False
theorem int1_inv {ds : List D} {P : Int → Prop} (h : int1 ds P) : ∃ i, ds = [.int i] ∧ P i := by
  unfold int1 at h
  split at h
  · exact ⟨_, rfl, h⟩
  · exact h.elim
theorem int2_inv {ds : List D} {P : Int → Int → Prop} (h : int2 ds P) : ∃ i j, ds = [.int i, .int j] ∧ P i j := by
  unfold int2 at h
  split at h
  · exact ⟨_, _, rfl, h⟩
  · exact h.elim
def fRng1 (fa : FA) : FI := fun ρ Kc => fa ρ fun ρ' ds => int1 ds fun j => (-(2 ^ 62) ≤ j ∧ j < 2 ^ 62) ∧ Kc ρ' (rngD 0 j.toNat)
def fRng2 (fa : FA) : FI := fun ρ Kc => fa ρ fun ρ' ds => int2 ds fun i j => (-(2 ^ 62) ≤ i ∧ i < 2 ^ 62 ∧ -(2 ^ 62) ≤ j ∧ j < 2 ^ 62) ∧ Kc ρ' (rngD i (j - i).toNat)
theorem i_rng1 {tg a : Expr} {fa : FA} {p : Pos} (ha : PDa G X O [a] c n fa) (hm : X.mg "range" = none) (hg : Gl X "range" := by rfl) (hs : starEach [a] X.env = [(false, eval a X.env)] := by rfl) : PDi G X O tg (.Call (.Name "range" p) [a] [] pos) n (fRng1 fa) := by
  obtain ⟨t1, p1, q1⟩ := ha.run
  refine ⟨_, pi_range1 hg hm p1 hs, fun B S H σ ρ Kc R I hb hf hq => ?_⟩
  refine q1 B S H σ ρ _ _ I (by omega) hf fun vs H1 S1 ρ1 ds I1 m1 c1 r1 h1 => ?_
  obtain ⟨j, rfl, ⟨b1, b2⟩, h2⟩ := int1_inv h1
  cases r1 with
  | cons r r' =>
    cases r'
    obtain rfl := r.int_inv
    exact ⟨j, rfl, b1, b2, hq _ H1 S1 ρ1 _ I1 m1 itOk_rng h2⟩
/-! ### for -/
def forL (h : FG) (gb : FS) (Ed : EndsD) : List D → EnvD → Prop
  | [], ρ => Ed.nx ρ
  | x :: r, ρ => h x ρ fun ρ1 => gb { nx := forL h gb Ed r, ct := forL h gb Ed r, bk := Ed.nx, rt := Ed.rt } ρ1
def fFor (fi : FI) (h : FG) (gb : FS) : FS := fun Ed ρ => fi ρ fun ρ1 xs => forL h gb Ed xs ρ1
/-- the loop's reading: c rounds at most, or rounds that do not draw -/
def fForN (cap : Nat) (fi : FI) (h : FG) (gb : FS) : FS := fun Ed ρ => fi ρ fun ρ1 xs => xs.length ≤ cap ∧ forL h gb Ed xs ρ1
theorem s_forR (cap : Nat) (R : List D → Prop → Prop) (hR : ∀ xs P, R xs P → (n2 = 0 ∨ xs.length ≤ cap) ∧ P) {tg iter : Expr} {body : List Stmt} {fi : FI} {h : FG} {sl : List Nat} (hp : PassesOwn (model X.prog X.w) X.A X.env X.xe) (hc : X.calm = true) (hi : PDi G X O tg iter n1 fi) (hg : PDg G X O tg sl h) (hb : PDb G X O rk body n2 g) (hfs : ∀ x, foldedSetIterable iter X.env x = pure x := by intro _; rfl) :
    PDs G X O rk (.For tg iter body [] pos) (n1 + cap * n2) (fun Ed ρ => fi ρ fun ρ1 xs => R xs (forL h g Ed xs ρ1)) := by
  obtain ⟨wi, pi, qi⟩ := hi.run
  obtain ⟨tg', pg, qg⟩ := hg.run
  obtain ⟨tb, pb, qb⟩ := hb.run
  refine ⟨_, ps_for hp hc pi pg pb (hs := hfs), fun B S H σ ρ Ed D I hb hf E => ?_⟩
  refine qi B S H σ ρ _ _ I (by omega) hf fun J H1 S1 ρ1 xs I1 m1 J1 h1 => ?_
  obtain ⟨hcap, h1⟩ := hR _ _ h1
  have E1 := E.mono m1
  have tot : xs.length * n2 ≤ cap * n2 := by
    rcases hcap with e | e
    · rw [e]; exact Nat.le_refl _
    · exact Nat.mul_le_mul_right _ e
  refine ⟨fun i m σ' H' => ∃ S' ρ', Eok G X.K O B S' H' σ' ρ' ∧ Sub (i * n2) S1 S' ∧ i ≤ xs.length ∧ m = xs.length - i ∧ forL h g Ed (xs.drop i) ρ', ⟨_, S1, ρ1, I1, Sub.refl _, Nat.zero_le _, rfl, h1⟩, ?_⟩
  rintro i m σ' H' ⟨S', ρ', I', m', hi, rfl, hl⟩
  have ti : i * n2 ≤ cap * n2 := Nat.le_trans (Nat.mul_le_mul_right _ hi) tot
  by_cases hlt : i < xs.length
  · have ts : i * n2 + n2 ≤ cap * n2 := by
      rw [← Nat.succ_mul]; exact Nat.le_trans (Nat.mul_le_mul_right _ hlt) tot
    refine .inr ⟨J1.go _ i S' H' m' I'.le I'.j hlt, fun σ2 H2 => ∃ S2 ρ2, Eok G X.K O B S2 H2 σ2 ρ2 ∧ Sub ((i + 1) * n2) S1 S2 ∧ forL h g Ed (xs.drop (i + 1)) ρ2, fun σ2 H2 ⟨S2, ρ2, I2, m2, h2⟩ => ⟨_, by omega, S2, ρ2, I2, m2, hlt, rfl, h2⟩, fun x H2 y => ?_⟩
    obtain ⟨S3, d, e1, I3, m3, dn⟩ := J1.yld O _ i B S' H' σ' ρ' x H2 m' I' hlt y
    have ed : xs.drop i = d :: xs.drop (i + 1) := by
      rw [List.drop_eq_getElem_cons hlt]
      rw [List.getElem?_eq_getElem hlt] at e1
      cases e1; rfl
    rw [ed] at hl
    refine qg B S3 H2 σ' ρ' x d _ _ I3 dn hl fun σ4 ρ4 I4 _ h4 => ?_
    have m4 := m'.t0 m3
    have m5 : ∀ {S5 : Fz}, Sub n2 S3 S5 → Sub ((i + 1) * n2) S1 S5 := fun z => (m4.trans z).up (by rw [Nat.succ_mul]; exact Nat.le_refl _)
    have m6 : ∀ {S5 : Fz}, Sub n2 S3 S5 → Sub (cap * n2) S1 S5 := fun z => (m4.trans z).up ts
    exact qb B S3 H2 σ4 ρ4 _ _ I4 (by have := m1.lo; have := m'.lo; have := m3.lo; omega) h4 ⟨fun σ5 H5 S5 ρ5 I5 z h5 => ⟨S5, ρ5, I5, m5 z, h5⟩, fun hl v H5 S5 d I5 z r hr => E1.rt hl _ _ _ _ I5 (m6 z) r hr, fun σ5 H5 S5 ρ5 I5 z hb => E1.nx _ _ _ _ I5 (m6 z) hb, fun σ5 H5 S5 ρ5 I5 z h5 => ⟨S5, ρ5, I5, m5 z, h5⟩, fun hl v H5 S5 σ6 ρ6 d os I5 z => E1.rm hl v H5 S5 σ6 ρ6 d os I5 (m6 z)⟩
  · have e : i = xs.length := by omega
    subst e
    rw [List.drop_length] at hl
    exact .inl ⟨J1.stop _ S' H' m' I'.le I'.j, E1.nx _ _ _ _ I' (m'.up tot) hl⟩
theorem s_forN (cap : Nat) {tg iter : Expr} {body : List Stmt} {fi : FI} {h : FG} {sl : List Nat} (hp : PassesOwn (model X.prog X.w) X.A X.env X.xe) (hc : X.calm = true) (hi : PDi G X O tg iter n1 fi) (hg : PDg G X O tg sl h) (hb : PDb G X O rk body n2 g) (hfs : ∀ x, foldedSetIterable iter X.env x = pure x := by intro _; rfl) :
    PDs G X O rk (.For tg iter body [] pos) (n1 + cap * n2) (fForN cap fi h g) := s_forR cap (fun xs P => xs.length ≤ cap ∧ P) (fun _ _ h => ⟨.inr h.1, h.2⟩) hp hc hi hg hb hfs
/-- rounds that do not draw -/
theorem s_for {tg iter : Expr} {body : List Stmt} {fi : FI} {h : FG} {sl : List Nat} (hp : PassesOwn (model X.prog X.w) X.A X.env X.xe) (hc : X.calm = true) (hi : PDi G X O tg iter n1 fi) (hg : PDg G X O tg sl h) (hb : PDb G X O rk body 0 g) (hfs : ∀ x, foldedSetIterable iter X.env x = pure x := by intro _; rfl) :
    PDs G X O rk (.For tg iter body [] pos) (n1 + 0 * 0) (fFor fi h g) := s_forR 0 (fun xs P => P) (fun _ _ h => ⟨.inl rfl, h⟩) hp hc hi hg hb hfs
end
end WL

/-! WE: list comprehensions over data. -/
namespace WL
open PySem PySem.Spec PyProof.Rows L2
/-- nothing is let out -/
def XO.none (O : XO) : XO := { W := O.W, xd := fun _ => False, keep := fun _ => false, t0 := 0 }
section
variable {G : Glob} {K : PySem.W.Frag} {O : XO} {B : Bs} {S S' : Fz} {H H' : Hp} {σ : L2.St} {ρ : EnvD}
theorem Eok.calm {O' : XO} (I : Eok G K O B S H σ ρ) (h : ∀ x, ¬ O'.xd x) (hk : ∀ i, O'.keep i = false := by exact fun _ => rfl) : Eok G K O' B S H σ ρ :=
  ⟨I.toSta, .inr h, fun _ cls dx S' H' σ' x _ _ _ _ _ z => absurd z (h x), I.im, I.ow, I.ap, I.tm, I.ta, I.tt, I.len, I.sf, fun i z => by rw [hk i] at z; cases z⟩
/-- another wish about exceptions -/
theorem Eok.wish {O' : XO} (I : Eok G K O B S H σ ρ) (ht : S.T ≤ O'.t0 ∨ ∀ x, ¬ O'.xd x) (h : ∀ n cls dx S' H' σ' x, Sta G K B S' H' → S'.T ≤ O'.t0 → Sub n S S' → (∀ i, O'.keep i = true → σ'[i]? = σ[i]?) → DX G K S' H' cls dx x → O'.xd x → O'.W cls dx σ' H') (hk : ∀ i, O'.keep i = true → σ[i]? = B.sl i) : Eok G K O' B S H σ ρ :=
  ⟨I.toSta, ht, h, I.im, I.ow, I.ap, I.tm, I.ta, I.tt, I.len, I.sf, hk⟩
def wipeD (ρ : EnvD) : List Nat → EnvD
  | [] => ρ
  | v :: vs => (wipeD ρ vs).set v Option.none
theorem wipeD_length (ρ : EnvD) : ∀ vs : List Nat, (wipeD ρ vs).length = ρ.length
  | [] => rfl
  | v :: vs => by unfold wipeD; rw [List.length_set, wipeD_length ρ vs]
theorem wipe_at (σ : L2.St) (i : Nat) : ∀ vs : List Nat, (wipe σ vs)[i]? = if i ∈ vs then (if i < σ.length then some Option.none else Option.none) else σ[i]?
  | [] => by simp [wipe]
  | v :: vs => by
    unfold wipe
    rw [get_set, wipe_length, wipe_at σ i vs]
    by_cases e : v = i
    · subst e; simp
    · simp [e, Ne.symm e]
theorem wipeD_at (ρ : EnvD) (i : Nat) : ∀ vs : List Nat, (wipeD ρ vs)[i]? = if i ∈ vs then (if i < ρ.length then some Option.none else Option.none) else ρ[i]?
  | [] => by simp [wipeD]
  | v :: vs => by
    unfold wipeD
    rw [get_set, wipeD_length, wipeD_at ρ i vs]
    by_cases e : v = i
    · subst e; simp
    · simp [e, Ne.symm e]
theorem Off.wipe {vs : List Nat} {σ σ' : L2.St} {ρ ρ' : EnvD} (h : Off vs σ σ' ρ ρ') : L2.wipe σ' vs = L2.wipe σ vs := by
  apply List.ext_getElem?
  intro i
  rw [wipe_at, wipe_at, h.1]
  by_cases e : i ∈ vs
  · rw [if_pos e, if_pos e]
  · rw [if_neg e, if_neg e, (h.2 i e).1]
theorem Off.wipeD {vs : List Nat} {σ σ' : L2.St} {ρ ρ' : EnvD} (h : Off vs σ σ' ρ ρ') (hl : ρ'.length = ρ.length) : wipeD ρ' vs = wipeD ρ vs := by
  apply List.ext_getElem?
  intro i
  rw [wipeD_at, wipeD_at, hl]
  by_cases e : i ∈ vs
  · rw [if_pos e, if_pos e]
  · rw [if_neg e, if_neg e, (h.2 i e).2]
theorem wipe_wipe (σ : L2.St) (vs : List Nat) : wipe (wipe σ vs) vs = wipe σ vs := by
  apply List.ext_getElem?
  intro i
  rw [wipe_at, wipe_length]
  by_cases e : i ∈ vs
  · rw [if_pos e, wipe_at, if_pos e]
  · rw [if_neg e]
theorem wipeD_wipe (σ : EnvD) (vs : List Nat) : wipeD (wipeD σ vs) vs = wipeD σ vs := by
  apply List.ext_getElem?
  intro i
  rw [wipeD_at, wipeD_length]
  by_cases e : i ∈ vs
  · rw [if_pos e, wipeD_at, if_pos e]
  · rw [if_neg e]
/-- slots are forgotten on both sides -/
theorem Eok.wipe (I : Eok G K O B S H σ ρ) (vs : List Nat) (hk : ∀ i, O.keep i = false) : Eok G K O B S H (L2.wipe σ vs) (wipeD ρ vs) := by
  have ei : ∀ (i : Nat) (s : Slot), (wipeD ρ vs)[i]? = some (some s) → (L2.wipe σ vs)[i]? = σ[i]? ∧ ρ[i]? = some (some s) := fun i s h => by
    rw [wipeD_at] at h
    by_cases e : i ∈ vs
    · rw [if_pos e] at h; split at h <;> simp at h
    · rw [if_neg e] at h; rw [wipe_at, if_neg e]; exact ⟨rfl, h⟩
  have ow : ∀ i a o, Owns (L2.wipe σ vs) (wipeD ρ vs) i a o → Owns σ ρ i a o := fun i a o h => by
    obtain ⟨e1, e2⟩ := ei i _ h.1
    exact ⟨e2, by rw [← e1]; exact h.2⟩
  refine ⟨I.toSta, I.tz, fun n2 cls dx S2 H2 σ2 x t2 l2 m2 k2 d2 => I.xr n2 cls dx S2 H2 σ2 x t2 l2 m2 (fun i z => by rw [hk i] at z; cases z) d2, fun i d h => ?_, fun i o h => ?_, fun i j a o o' h1 h2 => I.ap i j a o o' (ow _ _ _ h1) (ow _ _ _ h2), I.tm, fun i j a o o' h1 h2 => I.ta i j a o o' (ow _ _ _ h1) h2, I.tt, by rw [wipe_length, wipeD_length]; exact I.len, fun i c fs h => by
    obtain ⟨e1, e2⟩ := ei i _ h
    rw [e1]; exact I.sf i c fs e2, fun i z => by rw [hk i] at z; cases z⟩
  · obtain ⟨e1, e2⟩ := ei i _ h
    rw [e1]; exact I.im i d e2
  · obtain ⟨e1, e2⟩ := ei i _ h
    rw [e1]; exact I.ow i o e2
/-- no container of one's own in these slots -/
def noOwn (ρ : EnvD) (vs : List Nat) : Prop := ∀ i ∈ vs, ∀ o, ρ[i]? ≠ some (some (Slot.own o))
/-- .. and remembered again -/
theorem Eok.unwipe {O' : XO} {vs : List Nat} {B' : Bs} {S0 : Fz} {H0 : Hp} {n : Nat} (I0 : Eok G K O B S0 H0 σ ρ) (I : Eok G K O' B S H (L2.wipe σ vs) (wipeD ρ vs)) (m : Sub n S0 S) (hx : n = 0 ∨ ∀ x, ¬ O.xd x) (hn : noOwn ρ vs) : Eok G K O B S H σ ρ := by
  have eo : ∀ (i : Nat) (o : Own), ρ[i]? = some (some (.own o)) → (L2.wipe σ vs)[i]? = σ[i]? ∧ (wipeD ρ vs)[i]? = some (some (.own o)) := fun i o h => by
    have e : i ∉ vs := fun z => hn i z o h
    rw [wipe_at, wipeD_at, if_neg e, if_neg e]; exact ⟨rfl, h⟩
  have ow : ∀ i a o, Owns σ ρ i a o → Owns (L2.wipe σ vs) (wipeD ρ vs) i a o := fun i a o h => by
    obtain ⟨e1, e2⟩ := eo i o h.1
    exact ⟨e2, by rw [e1]; exact h.2⟩
  refine ⟨I.toSta, ?_, fun n2 cls dx S2 H2 σ2 x t2 l2 m2 k2 d2 => I0.xr _ cls dx S2 H2 σ2 x t2 l2 (m.trans m2) k2 d2, fun i d h => ?_, fun i o h => ?_, fun i j a o o' h1 h2 => I.ap i j a o o' (ow _ _ _ h1) (ow _ _ _ h2), I.tm, fun i j a o o' h1 h2 => I.ta i j a o o' (ow _ _ _ h1) h2, I.tt, I0.len, fun i c fs h => by
    obtain ⟨e1, e2⟩ := eo i _ h
    rw [← e1]; exact I.sf i c fs e2, I0.kp⟩
  · rcases hx with e | e
    · rcases I0.tz with z | z
      · exact .inl (by have := m.lo; omega)
      · exact .inr z
    · exact .inr e
  · obtain ⟨v, e1, e2⟩ := I0.im i d h
    exact ⟨v, e1, e2.mono m⟩
  · obtain ⟨e1, e2⟩ := eo i o h
    rw [← e1]; exact I.ow i o e2
/-- a container held aside -/
abbrev Bs.aside (B : Bs) (a : Addr) (o : Own) : Bs := { B with tmp := (a, o) :: B.tmp }
theorem Sta.tmp {t : List (Addr × Own)} (I : Sta G K B S H) : Sta G K { B with tmp := t } S H := ⟨I.le, I.sm, I.j, I.dom, I.sn, I.kept⟩
theorem Sta.untmp {t : List (Addr × Own)} (I : Sta G K { B with tmp := t } S H) : Sta G K B S H := ⟨I.le, I.sm, I.j, I.dom, I.sn, I.kept⟩
theorem Own1.tmp {t : List (Addr × Own)} {a : Addr} {o : Own} (h : Own1 G K B S H a o) : Own1 G K { B with tmp := t } S H a o := ⟨h.s, h.m, h.h0, h.at_⟩
theorem Own1.untmp {t : List (Addr × Own)} {a : Addr} {o : Own} (h : Own1 G K { B with tmp := t } S H a o) : Own1 G K B S H a o := ⟨h.s, h.m, h.h0, h.at_⟩
theorem Eok.aside {a : Addr} {o : Own} (I : Eok G K O B S H σ ρ) (h : Own1 G K B S H a o) (n : Nob B σ ρ a) : Eok G K O (B.aside a o) S H σ ρ := by
  refine ⟨I.toSta.tmp, I.tz, fun n2 cls dx S2 H2 σ2 x t2 l2 m2 k2 d2 => I.xr n2 cls dx S2 H2 σ2 x t2.untmp l2 m2 k2 d2, I.im, fun i o e => ?_, I.ap, fun j b o' e => ?_, fun i j b o1 o2 w e => ?_, fun i j b o1 o2 e1 e2 => ?_, I.len, I.sf, I.kp⟩
  · obtain ⟨b, e1, e2⟩ := I.ow i o e; exact ⟨b, e1, e2.tmp⟩
  · cases j with
    | zero => simp at e; obtain ⟨rfl, rfl⟩ := e; exact h.tmp
    | succ j => exact (I.tm j b o' (by simpa using e)).tmp
  · cases j with
    | zero => simp at e; obtain ⟨rfl, rfl⟩ := e; exact n.no i o1 w
    | succ j => exact I.ta i j b o1 o2 w (by simpa using e)
  · cases i <;> cases j
    · rfl
    · simp at e1 e2; obtain ⟨rfl, rfl⟩ := e1; exact (n.nt _ _ e2).elim
    · simp at e1 e2; obtain ⟨rfl, rfl⟩ := e2; exact (n.nt _ _ e1).elim
    · rename_i i j; exact congrArg (· + 1) (I.tt i j b o1 o2 (by simpa using e1) (by simpa using e2))
theorem Eok.back {a : Addr} {o : Own} (I : Eok G K O (B.aside a o) S H σ ρ) : Eok G K O B S H σ ρ ∧ Own1 G K B S H a o ∧ Nob B σ ρ a := by
  refine ⟨⟨I.toSta.untmp, I.tz, fun n2 cls dx S2 H2 σ2 x t2 l2 m2 k2 d2 => I.xr n2 cls dx S2 H2 σ2 x t2.tmp l2 m2 k2 d2, I.im, fun i o e => ?_, I.ap, fun j b o' e => (I.tm (j + 1) b o' (by simpa using e)).untmp, fun i j b o1 o2 w e => I.ta i (j + 1) b o1 o2 w (by simpa using e), fun i j b o1 o2 e1 e2 => ?_, I.len, I.sf, I.kp⟩, (I.tm 0 a o rfl).untmp, fun i o' w => I.ta i 0 a o' o w rfl, fun j o' e => ?_⟩
  · obtain ⟨b, e1, e2⟩ := I.ow i o e; exact ⟨b, e1, e2.untmp⟩
  · have := I.tt (i + 1) (j + 1) b o1 o2 (by simpa using e1) (by simpa using e2)
    omega
  · have := I.tt 0 (j + 1) a o o' rfl (by simpa using e)
    omega
/-- what is at a nobody's place is changed -/
theorem Sta.chg {a : Addr} {u : HO} (I : Sta G K B S H) (hs : S a = none) (hm : ¬ G.M a) (h0 : B.H0 a = none) (hx : ∀ p, H a ≠ some (.ext p)) : Sta G K B S (upd H a u) := by
  refine ⟨fun b o e => ?_, I.sm, ?_, fun b e => ?_, I.sn, fun b o e m n => ?_⟩
  · rw [upd_ne (ne_of_none e hs)]; exact I.le b o e
  · refine G.jlaw S.T H _ I.j fun b o e z => ?_
    have hb : b ≠ a := by
      rintro rfl
      rcases z with z | ⟨p, rfl⟩
      · exact hm z
      · exact hx p e
    rw [upd_ne hb]; exact e
  · by_cases hb : b = a
    · rw [hb, upd_same]; exact fun z => nomatch z
    · rw [upd_ne hb]; exact I.dom b e
  · rw [upd_ne (ne_of_none e h0)]; exact I.kept b o e m n
theorem Own1.chg {a : Addr} {o o' : Own} {u : HO} (h : Own1 G K B S H a o) (I : Sta G K B S H) (w : OwnAt G K S (upd H a u) a o') : Sta G K B S (upd H a u) ∧ Own1 G K B S (upd H a u) a o' := by
  obtain ⟨x, hx, _, _, he, _⟩ := h.at_.there
  exact ⟨I.chg h.s h.m h.h0 fun p z => by rw [hx] at z; cases z; exact he p rfl, h.s, h.m, h.h0, w⟩
/-- the container aside is changed -/
theorem Eok.chgAside {a : Addr} {o o' : Own} {u : HO} (I : Eok G K O (B.aside a o) S H σ ρ) (w : OwnAt G K S (upd H a u) a o') : Eok G K O (B.aside a o') S (upd H a u) σ ρ := by
  obtain ⟨I1, h, n⟩ := I.back
  obtain ⟨t, h'⟩ := h.chg I1.toSta w
  exact (I1.step t rfl (Sub.refl _) n (fun _ _ => rfl) (fun b hb => upd_ne hb)).aside h' n
end

/-! ### the canonical readings of the parts -/
section
variable {G : Glob} {X : Cx} {O : XO} {e : Expr} {k : Kd} {c : Bool} {n ni nt ne : Nat} {f : FE} {g : FT} {h : FG} {tg : Expr} {sl : List Nat}
def tCan (G : Glob) (K : PySem.W.Frag) (O : XO) (k : Kd) (c : Bool) (n : Nat) (f : FE) : TE := fun σ H Q => ∃ (B : Bs) (S : Fz) (ρ : EnvD) (Kc : EnvD → D → Prop), Eok G K O B S H σ ρ ∧ S.T + n ≤ limT ∧ f ρ Kc ∧
  ∀ v H' S' ρ' d, Eok G K O B S' H' σ ρ' → Sub n S S' → (c = true → ρ' = ρ) → ROk G K B S' H' σ ρ' v d k → Kc ρ' d → Q v H'
theorem PDe.can (p : PDe G X O e k c n f) : PE X e (tCan G X.K O k c n f) := by
  obtain ⟨t, pt, q⟩ := p.run
  exact ⟨fun pins s σ H Q I ⟨B, S, ρ, Kc, I', hb, hf, hq⟩ => pt.run pins s σ H Q I (q B S H σ ρ Kc Q I' hb hf hq)⟩
def ttCan (G : Glob) (K : PySem.W.Frag) (O : XO) (c : Bool) (n : Nat) (f : FT) : TT := fun σ H Q => ∃ (B : Bs) (S : Fz) (ρ : EnvD) (Kc : EnvD → Bool → Prop), Eok G K O B S H σ ρ ∧ S.T + n ≤ limT ∧ f ρ Kc ∧
  ∀ b H' S' ρ', Eok G K O B S' H' σ ρ' → Sub n S S' → (c = true → ρ' = ρ) → Kc ρ' b → Q b H'
theorem PDt.can (p : PDt G X O e c n g) : PT X e (ttCan G X.K O c n g) := by
  obtain ⟨t, pt, q⟩ := p.run
  exact ⟨fun pins s σ H Q I ⟨B, S, ρ, Kc, I', hb, hf, hq⟩ => pt.run pins s σ H Q I (q B S H σ ρ Kc Q I' hb hf hq)⟩
def tgCan (G : Glob) (K : PySem.W.Frag) (O : XO) (sl : List Nat) (h : FG) : TG := fun v σ H Q => ∃ (B : Bs) (S : Fz) (ρ : EnvD) (d : D) (Kc : EnvD → Prop), Eok G K O B S H σ ρ ∧ Den G K S v d ∧ h d ρ Kc ∧
  ∀ σ' ρ', Eok G K O B S H σ' ρ' → Off sl σ σ' ρ ρ' → Kc ρ' → Q σ' H
theorem PDg.can (p : PDg G X O tg sl h) : PG X tg (tgCan G X.K O sl h) := by
  obtain ⟨t, pt, q⟩ := p.run
  exact ⟨fun pins s σ H v u Q I r ⟨B, S, ρ, d, Kc, I', dn, hf, hq⟩ => pt.run pins s σ H v u Q I r (q B S H σ ρ v d Kc Q I' dn hf hq)⟩
/-- the tests of a comprehension -/
structure PDts (G : Glob) (X : Cx) (O : XO) (ifs : List Expr) (c : Bool) (n : Nat) (f : FT) : Prop where
  run : PTs X ifs (ttCan G X.K O c n f)
def fYes : FT := fun ρ Kc => Kc ρ true
theorem ts_nil : PDts G X O [] true 0 fYes := ⟨⟨fun pins s σ H Q I ⟨B, S, ρ, Kc, I', hb, hf, hq⟩ => pts_nil.run pins s σ H Q I (hq _ H S ρ I' (Sub.refl _) (fun _ => rfl) hf)⟩⟩
theorem ts_one (p : PDt G X O e c n g) : PDts G X O [e] c n g := ⟨pts_one p.can⟩

/-! ### [e for x in xs if t] -/
def lcL (h : FG) (ft : FT) (fe : FE) (P : List D → Prop) : List D → List D → EnvD → Prop
  | [], acc, _ => P acc
  | x :: r, acc, ρ => h x ρ fun ρ1 => ft ρ1 fun ρ2 b => if b = true then fe ρ2 fun _ y => lcL h ft fe P r (acc ++ [y]) ρ else lcL h ft fe P r acc ρ
def fLc (fi : FI) (h : FG) (ft : FT) (fe : FE) (vs : List Nat) : FE := fun ρ Kc => fi ρ fun ρ1 xs => noOwn ρ1 vs ∧ xs.length ≤ sizeLine ∧ lcL h ft fe (fun ys => Kc ρ1 (.lst ys)) xs [] (wipeD ρ1 vs)
theorem lc_read {K : PySem.W.Frag} {B : Bs} {S : Fz} {H : Hp} {σ : L2.St} {ρ : EnvD} {J : It} {xs : List D} {ft : FT} {fe : FE} {Kc : D → Prop} {Q : VK}
    (I : Eok G K O B S H σ ρ) (hb : S.T + sizeLine * (nt + ne) ≤ limT) (J1 : ItOk G K S J xs) (hn : noOwn ρ sl) (hz : xs.length ≤ sizeLine) (hl : lcL h ft fe (fun ys => Kc (.lst ys)) xs [] (wipeD ρ sl))
    (hx : sizeLine * (nt + ne) = 0 ∨ ∀ x, ¬ O.xd x) (hq : ∀ v H' S' d, Eok G K O B S' H' σ ρ → Sub (sizeLine * (nt + ne)) S S' → ROk G K B S' H' σ ρ v d .fr → Kc d → Q v H') :
    ∀ Dd, H Dd = none → ∃ W : Nat → Nat → Hp → Prop, (∃ m, W 0 m (upd H Dd (.lst []))) ∧ ∀ i m H, W i m H →
      (J.stop i H ∧ Q (.ref Dd) H) ∨ (J.go i H ∧ ∃ Nx : Hp → Prop, (∀ H', Nx H' → ∃ m', m' < m ∧ W (i + 1) m' H') ∧ ∀ x H', J.yld i H x H' → tgCan G K O.none sl h x (wipe σ sl) H' fun σ2 H2 => wipe σ2 sl = wipe σ sl ∧ ttCan G K O.none true nt ft σ2 H2 fun b H3 =>
        if b = true then tCan G K O.none .st true ne fe σ2 H3 fun y H4 => ∃ acc, H4 Dd = some (.lst acc) ∧ acc.length < sizeLine ∧ Nx (upd H4 Dd (.lst (acc ++ [y]))) else Nx H3) := by
  intro Dd hD
  have I0 : Eok G K O.none B S H (wipe σ sl) (wipeD ρ sl) := (I.calm (O' := O.none) fun _ z => z).wipe sl fun _ => rfl
  obtain ⟨hs, hm, h0⟩ := I0.toSta.new hD
  have st : ∀ (i m : Nat) (H' : Hp), True := fun _ _ _ => trivial
  refine ⟨fun i m H' => ∃ S' acc, Eok G K O.none (B.aside Dd (.lst acc)) S' H' (wipe σ sl) (wipeD ρ sl) ∧ Sub (i * (nt + ne)) S S' ∧ i ≤ xs.length ∧ m = xs.length - i ∧ acc.length ≤ i ∧ lcL h ft fe (fun ys => Kc (.lst ys)) (xs.drop i) acc (wipeD ρ sl), ⟨_, S, [], ?_, Sub.refl _, Nat.zero_le _, rfl, Nat.le_refl _, hl⟩, ?_⟩
  · exact (I0.laid hD).aside ⟨hs, hm, h0, ⟨[], upd_same, .nil⟩⟩ (I0.nob hD)
  rintro i m H' ⟨S', acc, I', m', hi, rfl, ha, hl⟩
  have hsm : (i + 1) * (nt + ne) = i * (nt + ne) + (nt + ne) := Nat.succ_mul _ _
  by_cases hlt : i < xs.length
  · have hcap : (i + 1) * (nt + ne) ≤ sizeLine * (nt + ne) := Nat.mul_le_mul_right _ (Nat.le_trans hlt hz)
    refine .inr ⟨J1.go _ i S' H' m' I'.le I'.j hlt, fun H2 => ∃ S2 acc, Eok G K O.none (B.aside Dd (.lst acc)) S2 H2 (wipe σ sl) (wipeD ρ sl) ∧ Sub ((i + 1) * (nt + ne)) S S2 ∧ acc.length ≤ i + 1 ∧ lcL h ft fe (fun ys => Kc (.lst ys)) (xs.drop (i + 1)) acc (wipeD ρ sl),
      fun H2 ⟨S2, acc, I2, m2, ha2, h2⟩ => ⟨_, by omega, S2, acc, I2, m2, hlt, rfl, ha2, h2⟩, fun x H2 y => ?_⟩
    obtain ⟨S3, d, e1, I3, m3, dn⟩ := J1.yld O.none _ i _ S' H' _ _ x H2 m' I' hlt y
    have ed : xs.drop i = d :: xs.drop (i + 1) := by
      rw [List.drop_eq_getElem_cons hlt]
      rw [List.getElem?_eq_getElem hlt] at e1
      cases e1; rfl
    rw [ed] at hl
    refine ⟨_, S3, _, d, _, I3, dn, hl, fun σ4 ρ4 I4 of4 h4 => ⟨of4.wipe.trans (wipe_wipe _ _), ?_⟩⟩
    have el : ρ4.length = (wipeD ρ sl).length := by rw [← I4.len, of4.1, I3.len]
    refine ⟨_, S3, ρ4, _, I4, (by have := m'.lo; have := m3.lo; omega), h4, fun b H5 S5 ρ5 I5 m5 c5 h5 => ?_⟩
    have e5 : ρ5 = ρ4 := c5 rfl
    subst e5
    have back : ∀ {S6 H6} {acc' : List D}, Eok G K O.none (B.aside Dd (.lst acc')) S6 H6 σ4 ρ5 → Eok G K O.none (B.aside Dd (.lst acc')) S6 H6 (wipe σ sl) (wipeD ρ sl) := fun I6 => by
      have := I6.wipe sl fun _ => rfl
      rw [of4.wipe, of4.wipeD el, wipe_wipe, wipeD_wipe] at this
      exact this
    dsimp only
    cases b with
    | false =>
      rw [if_neg (by decide)] at h5 ⊢
      exact ⟨S5, acc, back I5, ((m'.t0 m3).trans m5).up (by omega), by omega, h5⟩
    | true =>
      rw [if_pos rfl] at h5 ⊢
      refine ⟨_, S5, ρ5, _, I5, (by have := m'.lo; have := m3.lo; have := m5.lo; omega), h5, fun v H6 S6 ρ6 y I6 m6 c6 r6 h6 => ?_⟩
      have e6 : ρ6 = ρ5 := c6 rfl
      subst e6
      obtain ⟨_, w, _⟩ := I6.back
      obtain ⟨vs, hv, dl⟩ := w.at_
      refine ⟨vs, hv, by rw [dl.length]; omega, S6, acc ++ [y], back (I6.chgAside (o' := .lst (acc ++ [y])) ⟨_, upd_same, dl.snoc r6⟩), (((m'.t0 m3).trans m5).trans m6).up (by omega), by simp; omega, h6⟩
  · have e : i = xs.length := by omega
    subst e
    rw [List.drop_length] at hl
    obtain ⟨I6, w, n⟩ := I'.back
    have m' : Sub (sizeLine * (nt + ne)) S S' := m'.up (Nat.mul_le_mul_right _ hz)
    have I7 := I.unwipe (B' := B) I6 m' hx hn
    refine .inl ⟨J1.stop _ S' H' m' I'.le I'.j, hq _ H' S' _ I7 m' ⟨Dd, .lst acc, rfl, rfl, w, rfl, fun i o z => ?_, n.nt⟩ hl⟩
    by_cases hi : i ∈ sl
    · exact hn i hi o z.1
    · exact n.no i o ⟨by rw [wipeD_at, if_neg hi]; exact z.1, by rw [wipe_at, if_neg hi]; exact z.2⟩
theorem e_lc {elt iter : Expr} {ifs : List Expr} {scope : Scope} {own : List (Str × Nat)} {pos : Pos} {fi : FI} {ft : FT} {fe : FE} (hc : X.calm = true) (hN : X.N.Nodup) (hi : PDi G X O tg iter ni fi) (ok : BlkOk X.N X.env.scope scope own)
    (hg : ∀ (s : Shared) (H : Hp) (C : Addr) (cl : List (Str × Addr)) (fp : List Addr), PDg G (X.blk s H scope (compEnvC scope cl C X.env) fp) O.none tg (own.map (·.2)) h)
    (ht : ∀ (s : Shared) (H : Hp) (C : Addr) (cl : List (Str × Addr)) (fp : List Addr), PDts G (X.blk s H scope (compEnvC scope cl C X.env) fp) O.none ifs true nt ft)
    (he : ∀ (s : Shared) (H : Hp) (C : Addr) (cl : List (Str × Addr)) (fp : List Addr), PDe G (X.blk s H scope (compEnvC scope cl C X.env) fp) O.none elt .st true ne fe)
    (hx : sizeLine * (nt + ne) = 0 ∨ ∀ x, ¬ O.xd x := by first | exact .inl rfl | exact .inr fun _ z => z) (hs : ∀ x, foldedSetIterable iter X.env x = pure x := by intro _; rfl) : PDe G X O (.ListComp elt [⟨tg, iter, ifs, 0⟩] scope pos) .fr false (ni + sizeLine * (nt + ne)) (fLc fi h ft fe (own.map (·.2))) := by
  obtain ⟨wi, pi, qi⟩ := hi.run
  refine ⟨_, pe_lc (g := tgCan G X.K O.none (own.map (·.2)) h) (tt := ttCan G X.K O.none true nt ft) (te := tCan G X.K O.none .st true ne fe) hc hN pi ok (fun s H C cl fp => (hg s H C cl fp).can) (fun s H C cl fp => (ht s H C cl fp).run) (fun s H C cl fp => (he s H C cl fp).can) hs, fun B S H σ ρ Kc Q I hb hf hq => ?_⟩
  refine qi B S H σ ρ _ _ I (by omega) hf fun J H1 S1 ρ1 xs I1 m1 J1 h1 => ?_
  exact lc_read I1 (by have := m1.lo; omega) J1 h1.1 h1.2.1 h1.2.2 hx fun v H' S' d I' m' r' k' => hq v H' S' ρ1 d I' (m1.trans m') (fun z => nomatch z) r' k'
end
end WL

/-! WG: what a def promises where no repr is under way (guards told): the def's rule, its call. -/
namespace WL
open PySem PySem.Spec PyProof.Rows L2
/-- a def's promise, called where no repr is under way -/
structure FnG (P : Program) (w : World) (K : PySem.W.Frag) (mg : Str → Option Value) (base : Heap) (k : Nat) (f : Addr) (fd : FuncData) (ps : List Str) (sp : Sp) : Prop where
  len : ∀ vs H Q E, sp vs H Q E → vs.length = ps.length
  run : ∀ (A : Around) (fr : List Env) (s : Shared) (H : Hp) (args : Args) (us : List Value) (vs : List V) (Q : VK) (E : XK), Room k A → A.guards = some [] → Env0 P w K mg base A fr s H → BindsTo s fd args (ps.zip us) → Vals vs us →
    sp vs H Q E → codeAny (model P w) A (.call (.ref f) args) (CR (L2.CX P w) fr P w H s Q E) s
theorem FnG.mono {P w K mg base j k f fd ps sp} (F : FnG P w K mg base j f fd ps sp) (h : j ≤ k) : FnG P w K mg base k f fd ps sp :=
  ⟨F.len, fun A fr s H args us vs Q E hr => F.run A fr s H args us vs Q E (hr.mono h)⟩
theorem FnG.of {P w K mg base k f fd ps sp} (F : FnOk P w K mg base (L2.CX P w) k f fd ps sp) : FnG P w K mg base k f fd ps sp :=
  ⟨F.len, fun A fr s H args us vs Q E hr _ => F.run A fr s H args us vs Q E hr⟩
theorem FnG.imp {P w K mg base k f fd ps sp sp'} (F : FnG P w K mg base k f fd ps sp) (h : ∀ vs H Q E, sp' vs H Q E → sp vs H Q E) : FnG P w K mg base k f fd ps sp' :=
  ⟨fun vs H Q E q => F.len vs H Q E (h _ _ _ _ q), fun A fr s H args us vs Q E hr g he hb hv hs => F.run A fr s H args us vs Q E hr g he hb hv (h _ _ _ _ hs)⟩
/-- the rule, by the body's reading -/
theorem FunD.okGC {P : Program} {w : World} {K : PySem.W.Frag} {mg : Str → Option Value} {base : Heap} {x qual : Str} {params : Arguments} {body : List Stmt} {scope : Scope} {dvs : List V} {kws : List (Str × V)} {f : Addr} {fd : FuncData} {N ps : List Str} {k : Nat} {sp : Sp}
    (F : FunD K x qual params body scope dvs kws f fd) (Sc : FnScope N ps scope) (hlen : ∀ vs H Q E, sp vs H Q E → vs.length = ps.length)
    (hbody : ∀ (cdv : Value), fd.code = cdv → ∀ (A : Around) (fr : List Env) (s : Shared) (H : Hp) (vs : List V) (Q : VK) (E : XK), Room k (A.deeper (envOfC qual scope s.heap.objs.size f cdv)) → A.guards = some [] → sp vs H Q E →
      ∃ t, PSs (cxOf (L2.CX P w) P w K mg base N qual scope f cdv A fr s H E) body t ∧ t { nx := fun _ H' => Q .non H', rt := Q } (L2.start N vs) H) : FnG P w K mg base (k + 1) f fd ps sp := by
  obtain ⟨oc, od, dV, kV, doc, pm, an, cdv, ct, osl, rfl, hlook, hcode, _, _⟩ := F.ex
  refine ⟨hlen, fun A fr s H args us vs Q E room gd en bnd rv hs => ?_⟩
  have nv := hlen _ _ _ _ hs
  have keepB : ∀ b o, base.get? b = some o → s.heap.get? b = some o := fun b o e => (en.bs b o e).1
  have KIn : K.In s.heap := en.mod.kin.keeps keepB
  have noLim : s.heap.NoLimit := en.mod.nolimit.keeps keepB
  have kinds : ∀ y ∈ ps.zip us, scope.names.lookup y.1 = some .local ∨ (scope.names.lookup y.1 = some .cell ∧ ((cellsFrom (s.heap.objs.size + 1) scope.names []).lookup y.1).isSome = true) := by
    rintro ⟨n, z⟩ hy
    have hpar := Sc.par n (List.of_mem_zip hy).1
    exact hpar.elim (fun q => .inl q) fun q => .inr ⟨q, PySem.W.cellsFrom_some _ _ _ (.inl q)⟩
  refine codeAny_call_function room.depth (KIn _ _ hlook) rfl Sc.co Sc.gen rfl (PySem.W.codeRec_of KIn hcode) (bnd _ _ _ _ ?_)
  refine wpAny_newFunctionEnv_cells Sc.kind kinds fun env henv s1 inC => ?_
  subst henv
  refine ⟨noLim.keeps inC.toInCall.keep, codeAny_func ?_⟩
  obtain ⟨t, pt, rd⟩ := hbody cdv rfl A fr s H vs Q E (room.deeper _) gd hs
  have I0 := inv_start (CX := L2.CX P w) (E := E) Sc room.hd en nv rv inC
  refine wpAny_mono (pt.run [] s1 (L2.start N vs) H _ I0 rd) (fun fl s2 got => ?_) fun e s2 got => got
  have out : ∀ {σ2 : L2.St} {H2 : Hp} {v : V} {u : Value}, Inv (cxOf (L2.CX P w) P w K mg base N qual scope f cdv A fr s H E) [] σ2 H2 s2 → RelV v u → Q v H2 → CE fr P w H s Q u s2 :=
    fun {σ2 H2 v u} J a b => ⟨v, H2, J.os, J.bare, J.base, J.hok, a, b⟩
  match fl, got with
  | .ret u, ⟨v, σ2, H2, J, a, b⟩ => exact out J a b
  | .next, ⟨σ2, H2, J, b⟩ => exact out (v := V.non) (u := Value.none) J rfl b
  | .brk, ⟨_, _, _, z⟩ => exact z.elim
  | .cont, ⟨_, _, _, z⟩ => exact z.elim
theorem FunD.okG {P : Program} {w : World} {K : PySem.W.Frag} {mg : Str → Option Value} {base : Heap} {x qual : Str} {params : Arguments} {body : List Stmt} {scope : Scope} {dvs : List V} {kws : List (Str × V)} {f : Addr} {fd : FuncData} {N ps : List Str} {k : Nat} {sp : Sp}
    (F : FunD K x qual params body scope dvs kws f fd) (Sc : FnScope N ps scope) (hlen : ∀ vs H Q E, sp vs H Q E → vs.length = ps.length)
    (hbody : ∀ (cdv : Value) (A : Around) (fr : List Env) (s : Shared) (H : Hp) (vs : List V) (Q : VK) (E : XK), Room k (A.deeper (envOfC qual scope s.heap.objs.size f cdv)) → A.guards = some [] → sp vs H Q E →
      ∃ t, PSs (cxOf (L2.CX P w) P w K mg base N qual scope f cdv A fr s H E) body t ∧ t { nx := fun _ H' => Q .non H', rt := Q } (L2.start N vs) H) : FnG P w K mg base (k + 1) f fd ps sp :=
  FunD.okGC F Sc hlen fun cdv _ => hbody cdv
section
variable {X : Cx} {k : Nat} {f : Addr} {fd : FuncData} {ps : List Str} {sp : Sp} {dvs : List V} {ds : List Value} {E : L2.St → XK} {x : Str} {p pos : Pos} {e : Expr} {es : List Expr} {t : TA}
/-- the callee runs, its arguments bound -/
theorem run_G {pins : List (Addr × Obj)} {σ : L2.St} {H : Hp} {s : Shared} {Q : VK} {args : Args} {us : List Value} {vs : List V} (F : FnG X.prog X.w X.K X.mg X.base k f fd ps sp) (hr : Room k X.A) (hgd : X.A.guards = some []) (hx : PassesAt (L2.CX X.prog X.w) X σ (E σ))
    (I : Inv X pins σ H s) (hb : BindsTo s fd args (ps.zip us)) (r : Vals vs us) (h : sp vs H Q (E σ)) : codeAny (model X.prog X.w) X.A (.call (.ref f) args) (fun r s' => match r with
      | .ok (.ret u) => EP X pins σ Q u s'
      | .ok _ => False
      | .error e => X.xe e s') s := by
  refine codeAny_mono (F.run X.A X.stack s H args us vs Q (E σ) hr hgd I.env0 hb r h) fun r s' hq => ?_
  match r, hq with
  | .error e, hq => exact hx pins H s e s' I hq
  | .ok (.ret u), hq => exact I.after hq
  | .ok .next, hq => exact hq.elim
  | .ok .brk, hq => exact hq.elim
  | .ok .cont, hq => exact hq.elim
theorem run_Gp {pins : List (Addr × Obj)} {σ : L2.St} {H : Hp} {s : Shared} {Q : VK} {us : List Value} {vs : List V} (F : FnG X.prog X.w X.K X.mg X.base k f fd ps sp) (hr : Room k X.A) (hgd : X.A.guards = some []) (hb : Binds X.K fd ps ds) (hd : Vals dvs ds) (hx : PassesAt (L2.CX X.prog X.w) X σ (E σ))
    (I : Inv X pins σ H s) (r : Vals vs us) (h : sp (vs ++ dvs) H Q (E σ)) : wpAny (model X.prog X.w) X.A (call (.ref f) us) (EP X pins σ Q) X.xe s := by
  have r2 := r.append hd
  refine wpAny_call (codeAny_mono (run_G (args := ⟨us, []⟩) F hr hgd hx I (hb s us I.kIn (by rw [← r2.length]; exact F.len _ _ _ _ h)) r2 h) fun r s' hq => ?_)
  match r, hq with
  | .error e, hq => exact hq
  | .ok (.ret u), hq => exact hq
  | .ok .next, hq => exact hq.elim
  | .ok .brk, hq => exact hq.elim
  | .ok .cont, hq => exact hq.elim
theorem pe_callG (F : FnG X.prog X.w X.K X.mg X.base k f fd ps sp) (hr : Room k X.A) (hgd : X.A.guards = some []) (hg : Gl X x) (hm : X.mg x = some (.ref f)) (hk : PySem.W.keepIn X.K (.ref f) = true) (hb : Binds X.K fd ps ds) (hd : Vals dvs ds) (hx : ∀ σ, PassesAt (L2.CX X.prog X.w) X σ (E σ))
    (ha : PA X (e :: es) t) (hdb : (x == ("__debug__" : Str)) = false) (he : starEach (e :: es) X.env = (false, eval e X.env) :: starEach es X.env) (hpl : (backTo pos (starEach es X.env)).any (·.1) = false) :
    PE X (.Call (.Name x p) (e :: es) [] pos) (tCallSD sp dvs E t) := by
  constructor
  intro pins s σ H Q I h
  apply wpAny_Call_Name_kw
  refine ld_glob I hg hm ?_ hdb
  refine PySem.W.callWith_K (h₀ := X.base) I.ok.mod.kin hk ?_ he hpl
  refine thn (ha.run pos pins s σ H _ I h) ?_
  rintro us s1 ⟨vs, H1, I1, r, q⟩
  exact ⟨I1.kIn, run_Gp F hr hgd hb hd (hx σ) I1 r q⟩
end
end WL

/-! WF: what a def promises over data; calls of defs; assignments of comprehensions. -/
namespace WL
open PySem PySem.Spec PyProof.Rows L2
/-- what is asked of the arguments; which answers, which exceptions may come -/
structure Spc where
  ar : Nat
  pre : List D → Prop
  post : List D → D → Prop
  exc : List D → D → Prop := fun _ _ => False
  cost : Nat := 0
abbrev Bs.at (H : Hp) (S : Fz) : Bs := { H0 := H, S0 := S.h, tmp := [] }
def spD (G : Glob) (K : PySem.W.Frag) (rk : Bool) (n : Nat) (m : Spc) : Sp := fun vs H Q E => ∃ S ds, vs.length = n ∧ Sta G K (Bs.at H S) S H ∧ S.T + m.cost ≤ limT ∧ DenL G K S vs ds ∧ m.pre ds ∧
  (∀ v H' S' d, Sta G K (Bs.at H S) S' H' → Sub m.cost S S' → RtOk G K (Bs.at H S) S' H' v d rk → m.post ds d → Q v H') ∧
  (∀ n cls dx S' H' x, Sta G K (Bs.at H S) S' H' → S'.T ≤ S.T → Sub n S S' → DX G K S' H' cls dx x → m.exc ds x → E cls dx H')
section
variable {G : Glob} {K : PySem.W.Frag} {O : XO} {B : Bs} {S S' : Fz} {H H' : Hp} {σ : L2.St} {ρ : EnvD}
theorem Sta.enter (I : Sta G K B S H) : Sta G K (Bs.at H S) S H := ⟨I.le, I.sm, I.j, fun _ z => z, fun _ z _ => .inl z, fun _ _ e _ _ => .inl e⟩
theorem Sta.call (I : Sta G K B S H) (J : Sta G K (Bs.at H S) S' H') : Sta G K B S' H' := by
  refine ⟨J.le, J.sm, J.j, fun a z => J.dom a (I.dom a z), fun a z nt => ?_, fun a o e m n => ?_⟩
  by_cases nt2 : ∃ xs : TX, S a = some (txo xs)
  · obtain ⟨xs, z2⟩ := nt2
    have h1 := I.le _ _ z2
    by_cases hM : G.M a
    · rw [I.sm a hM] at z2; cases z2
    · rcases J.kept a _ h1 hM (fun _ z => txo_tbl z) with h2 | ⟨dk, _⟩
      · cases e : S' a with
        | none => exact absurd e z
        | some o' =>
          have := J.le _ _ e
          rw [h2] at this; cases this
          exact absurd e (nt xs)
      · rw [txo_dk] at dk; cases dk
  rcases J.sn a z nt with z | z
  · exact I.sn a z fun xs h => nt2 ⟨xs, h⟩
  · refine .inr ?_
    cases e : B.H0 a with
    | none => rfl
    | some o => exact absurd z (I.dom a (by rw [e]; exact fun z => nomatch z))
  · rcases I.kept a o e m n with q | ⟨dk, ns, od, q⟩
    · rcases J.kept a o q m n with q2 | ⟨dk, ns, od, q2⟩
      · exact .inl q2
      · refine .inr ⟨dk, ?_, od, q2⟩
        rcases I.sn a ns (fun xs h => by have := I.le _ _ h; rw [q] at this; cases this; rw [txo_dk] at dk; cases dk) with z | z
        · exact z
        · rw [e] at z; cases z
    · have q2 := J.kept a _ q m fun _ z => nomatch z
      rcases q2 with q2 | ⟨dk2, _⟩
      · exact .inr ⟨dk, ns, od, q2⟩
      · cases dk2
theorem Own1.call {n : Nat} {a : Addr} {o : Own} (I : Own1 G K B S H a o) (J : Sta G K (Bs.at H S) S' H') (m : Sub n S S') : Own1 G K B S' H' a o := by
  obtain ⟨u, e, mu, _, nx, nt⟩ := I.at_.there
  have eh : H' a = H a := by rw [e]; exact (J.kept a u e I.m nt).eq I.s
  refine ⟨?_, I.m, I.h0, I.at_.mono m eh⟩
  cases q : S' a with
  | none => rfl
  | some o' =>
    have nt2 : ∀ xs : TX, S' a ≠ Option.some (txo xs) := fun xs h => by
      have := J.le _ _ h
      rw [eh, e] at this; exact txo_mut (Option.some.inj this) mu nx
    rcases J.sn a (by rw [q]; exact fun z => nomatch z) nt2 with z | z
    · exact absurd I.s z
    · have z : H a = none := z
      rw [e] at z; cases z
theorem Eok.call {n : Nat} (I : Eok G K O B S H σ ρ) (J : Sta G K (Bs.at H S) S' H') (hx : n = 0 ∨ ∀ x, ¬ O.xd x) (m : Sub n S S') : Eok G K O B S' H' σ ρ := by
  refine ⟨I.toSta.call J, ?_, fun n2 cls dx S2 H2 σ2 x t2 l2 m2 k2 d2 => I.xr _ cls dx S2 H2 σ2 x t2 l2 (m.trans m2) k2 d2, fun i d e => ?_, fun i o e => ?_, I.ap, fun j a o e => (I.tm j a o e).call J m, I.ta, I.tt, I.len, I.sf, I.kp⟩
  · rcases hx with e | e
    · rcases I.tz with z | z
      · exact .inl (by have := m.lo; omega)
      · exact .inr z
    · exact .inr e
  · obtain ⟨v, e1, e2⟩ := I.im i d e; exact ⟨v, e1, e2.mono m⟩
  · obtain ⟨a, e1, e2⟩ := I.ow i o e; exact ⟨a, e1, e2.call J m⟩
def rkK : Bool → Kd
  | false => .st
  | true => .fr
/-- a callee's answer -/
theorem Eok.answer {n : Nat} {rk : Bool} {v : V} {d : D} (I : Eok G K O B S H σ ρ) (J : Sta G K (Bs.at H S) S' H') (m : Sub n S S') (r : RtOk G K (Bs.at H S) S' H' v d rk) : ROk G K B S' H' σ ρ v d (rkK rk) := by
  cases rk with
  | false => exact r
  | true =>
    obtain ⟨a, o, rfl, rfl, hc, w⟩ := r
    have hn : H a = none := w.h0
    have h0 : B.H0 a = none := by
      cases e : B.H0 a with
      | none => rfl
      | some o => exact absurd hn (I.dom a (by rw [e]; exact fun z => nomatch z))
    exact ⟨a, o, rfl, rfl, ⟨w.s, w.m, h0, w.at_⟩, hc, I.nob hn⟩
end

/-! ### a def keeps its promise -/
def startD (n : Nat) (ds : List D) : EnvD := ds.map (fun d => some (Slot.imm d)) ++ List.replicate (n - ds.length) none
theorem start_im {G : Glob} {K : PySem.W.Frag} {S : Fz} {N : List Str} {vs : List V} {ds : List D} (r : DenL G K S vs ds) (i : Nat) (d : D) (h : (startD N.length ds)[i]? = some (some (.imm d))) : ∃ v : V, (L2.start N vs)[i]? = some (some v) ∧ Den G K S v d := by
  have hl := r.length
  unfold startD at h
  unfold L2.start
  by_cases hi : i < ds.length
  · rw [List.getElem?_append_left (by simpa using hi)] at h
    rw [List.getElem?_append_left (by simpa [hl] using hi)]
    obtain ⟨v, d', e1, e2, q⟩ := paired_some r hi
    rw [List.getElem?_map, e2] at h
    simp at h
    subst h
    exact ⟨v, by rw [List.getElem?_map, e1]; rfl, q⟩
  · rw [List.getElem?_append_right (by simpa using hi), List.getElem?_replicate] at h
    split at h <;> simp at h
theorem start_ow {n : Nat} {ds : List D} {i : Nat} {o : Own} (h : (startD n ds)[i]? = some (some (.own o))) : False := by
  unfold startD at h
  by_cases hi : i < ds.length
  · rw [List.getElem?_append_left (by simpa using hi), List.getElem?_map] at h
    cases e : ds[i]? with
    | none => rw [e] at h; simp at h
    | some d => rw [e] at h; simp at h
  · rw [List.getElem?_append_right (by simpa using hi), List.getElem?_replicate] at h
    split at h <;> simp at h
/-- the context's wish of a def's body -/
def defO (E : XK) (xd : D → Prop) (t0 : Nat) : XO := { W := fun cls d _ H => E cls d H, xd := xd, keep := fun _ => false, t0 := t0 }
def endsD (rk : Bool) (P : D → Prop) : EndsD := { nx := fun _ => rk = false ∧ P .non, rt := P }
theorem fn_DC {G : Glob} {P : Program} {w : World} {K : PySem.W.Frag} {mg : Str → Option Value} {base : Heap} {x qual : Str} {params : Arguments} {body : List Stmt} {scope : Scope} {dvs : List V} {kws : List (Str × V)} {f : Addr} {fd : FuncData} {N ps : List Str} {k : Nat} {rk : Bool} {m : Spc}
    (F : FunD K x qual params body scope dvs kws f fd) (Sc : FnScope N ps scope)
    (hb : ∀ (cdv : Value), fd.code = cdv → ∀ (A : Around) (outer : List Env) (s : Shared) (H : Hp) (E : XK) (t0 : Nat) (ds : List D), Room k (A.deeper (envOfC qual scope s.heap.objs.size f cdv)) → A.guards = some [] → m.pre ds → ds.length = ps.length →
      Takes (cxOf (L2.CX P w) P w K mg base N qual scope f cdv A outer s H E) (defO E (m.exc ds) t0).W →
      ∃ n g, PDb G (cxOf (L2.CX P w) P w K mg base N qual scope f cdv A outer s H E) (defO E (m.exc ds) t0) rk body n g ∧ n ≤ m.cost ∧ g (endsD rk (m.post ds)) (startD N.length ds)) :
    FnG P w K mg base (k + 1) f fd ps (spD G K rk ps.length m) := by
  refine FunD.okGC F Sc (fun vs H Q E h => ?_) (fun cdv hcd A outer s H vs Q E hr gd h => ?_)
  · obtain ⟨S, ds, hl, _⟩ := h
    exact hl
  · obtain ⟨S, ds, hl, I, hb0, r, hp, hq, he⟩ := h
    have hl' : ds.length = ps.length := by rw [← r.length]; exact hl
    obtain ⟨n, g, pb, hn, hg⟩ := hb cdv hcd A outer s H E S.T ds hr gd hp hl' (takes_of rfl rfl rfl rfl)
    obtain ⟨t, pt, q⟩ := pb.run
    have lN : (L2.start N vs).length = (startD N.length ds).length := by
      unfold L2.start startD
      rw [List.length_append, List.length_append, List.length_map, List.length_map, List.length_replicate, List.length_replicate, r.length]
    have I0 : Eok G K (defO E (m.exc ds) S.T) (Bs.at H S) S H (L2.start N vs) (startD N.length ds) :=
      ⟨I, .inl (Nat.le_refl _), fun n2 cls dx S' H' σ' x t l2 m2 _ d z => he n2 cls dx S' H' x t l2 m2 d z, fun i d e => start_im r i d e, fun i o e => (start_ow e).elim, fun i j a o o' h1 _ => (start_ow h1.1).elim, fun j a o e => by simp at e, fun i j a o o' h1 _ => (start_ow h1.1).elim, fun i j a o o' e _ => by simp at e, lN, fun i c fs e => (start_ow e).elim, fun _ z => nomatch z⟩
    refine ⟨t, pt, q (Bs.at H S) S H _ _ (endsD rk (m.post ds)) _ I0 (by omega) hg ⟨fun σ' H' S' ρ' I' m' h => ?_, fun _ v H' S' d I' m' r' h => hq v H' S' d I' (m'.up hn) r' h, fun _ _ _ _ _ _ z => z.elim, fun _ _ _ _ _ _ z => z.elim, fun z => absurd rfl z⟩⟩
    obtain ⟨rfl, h⟩ := h
    exact hq .non H' S' .non I'.toSta (m'.up hn) .non h
theorem fn_D {G : Glob} {P : Program} {w : World} {K : PySem.W.Frag} {mg : Str → Option Value} {base : Heap} {x qual : Str} {params : Arguments} {body : List Stmt} {scope : Scope} {dvs : List V} {kws : List (Str × V)} {f : Addr} {fd : FuncData} {N ps : List Str} {k : Nat} {rk : Bool} {m : Spc}
    (F : FunD K x qual params body scope dvs kws f fd) (Sc : FnScope N ps scope)
    (hb : ∀ (cdv : Value) (A : Around) (outer : List Env) (s : Shared) (H : Hp) (E : XK) (t0 : Nat) (ds : List D), Room k (A.deeper (envOfC qual scope s.heap.objs.size f cdv)) → A.guards = some [] → m.pre ds → ds.length = ps.length →
      Takes (cxOf (L2.CX P w) P w K mg base N qual scope f cdv A outer s H E) (defO E (m.exc ds) t0).W →
      ∃ n g, PDb G (cxOf (L2.CX P w) P w K mg base N qual scope f cdv A outer s H E) (defO E (m.exc ds) t0) rk body n g ∧ n ≤ m.cost ∧ g (endsD rk (m.post ds)) (startD N.length ds)) :
    FnG P w K mg base (k + 1) f fd ps (spD G K rk ps.length m) :=
  fn_DC F Sc fun cdv _ => hb cdv

/-! ### calls -/
/-- the def x of the module, called with the last parameters at their defaults -/
structure Fn (G : Glob) (P : Program) (w : World) (K : PySem.W.Frag) (mg : Str → Option Value) (base : Heap) (x : Str) (k : Nat) (rk : Bool) (m : Spc) (dds : List D) : Prop where
  ex : ∃ (f : Addr) (fd : FuncData) (ps : List Str) (ds : List Value) (dvs : List V), FnG P w K mg base k f fd ps (spD G K rk ps.length m) ∧ mg x = some (.ref f) ∧ PySem.W.keepIn K (.ref f) = true ∧ Binds K fd ps ds ∧ Vals dvs ds ∧ (∀ S, DenL G K S dvs dds) ∧ ps.length = m.ar
def fCall (xd : D → Prop) (m : Spc) (dds : List D) (fa : FA) : FE := fun ρ Kc => fa ρ fun ρ1 ds => ds.length + dds.length = m.ar ∧ m.pre (ds ++ dds) ∧ (∀ d, m.post (ds ++ dds) d → Kc ρ1 d) ∧ ∀ x, m.exc (ds ++ dds) x → xd x
theorem paired_append {α β : Type} {F : α → β → Prop} {l₁ m₁ : List α} {l₂ m₂ : List β} (h : Paired F l₁ l₂) (h' : Paired F m₁ m₂) : Paired F (l₁ ++ m₁) (l₂ ++ m₂) := by
  induction h with
  | nil => exact h'
  | cons r _ ih => exact .cons r ih
/-- what a callee lets out is wanted here -/
structure Lets (X : Cx) (O : XO) : Prop where
  ex : ∃ E : L2.St → XK, (∀ σ, PassesAt (L2.CX X.prog X.w) X σ (E σ)) ∧ ∀ σ cls dx H x, O.xd x → O.W cls dx σ H → E σ cls dx H
theorem lets {X : Cx} {O : XO} (tk : Takes X O.W) : Lets X O := ⟨WE O.W, fun σ => passAt tk σ, fun _ _ _ _ _ _ h => h⟩
theorem lets0 {X : Cx} {O : XO} (h : ∀ x, ¬ O.xd x) : Lets X O := ⟨fun _ _ _ _ => False, fun σ => fun pins H s e s' I c => by
  obtain ⟨a, B, H', cls, d, _, _, _, _, _, _, _, z⟩ := c
  exact z.elim, fun _ _ _ _ x z _ => absurd z (h x)⟩
section
variable {G : Glob} {X : Cx} {O : XO} {rk : Bool} {x : Str} {p pos : Pos} {e : Expr} {es : List Expr} {k j : Nat} {m : Spc} {dds : List D} {c : Bool} {na : Nat} {fa : FA}
theorem e_call (F : Fn G X.prog X.w X.K X.mg X.base x k rk m dds) (hr : Room j X.A) (hgd : X.A.guards = some []) (hk : k ≤ j) (tk : Lets X O) (ha : PDa G X O (e :: es) c na fa) (hx0 : m.cost = 0 ∨ ∀ x, ¬ O.xd x := by first | exact .inl rfl | exact .inr fun _ z => z) (hg : Gl X x := by rfl) (hdb : (x == ("__debug__" : Str)) = false := by decide)
    (he : starEach (e :: es) X.env = (false, eval e X.env) :: starEach es X.env := by rfl) (hpl : (backTo pos (starEach es X.env)).any (·.1) = false := by rfl) : PDe G X O (.Call (.Name x p) (e :: es) [] pos) (rkK rk) c (na + m.cost) (fCall O.xd m dds fa) := by
  obtain ⟨f, fd, ps, ds, dvs, F, hm, hkp, hb, hv, hd, hlen⟩ := F.ex
  obtain ⟨t, pa, q⟩ := ha.run
  obtain ⟨E, hE, hW⟩ := tk.ex
  refine ⟨_, pe_callG F (hr.mono hk) hgd hg hm hkp hb hv hE pa hdb he hpl, fun B S H σ ρ Kc Q I hb hf hq => ?_⟩
  refine q B S H σ ρ _ _ I (by omega) hf fun vs H1 S1 ρ1 xs I1 m1 c1 r1 h1 => ?_
  obtain ⟨har, hp, hpost, hx⟩ := h1
  have r2 : DenL G X.K S1 (vs ++ dvs) (xs ++ dds) := paired_append r1 (hd S1)
  refine ⟨S1, xs ++ dds, ?_, I1.toSta.enter, (by have := m1.lo; omega), r2, hp, fun v H' S' d J m' r' hpo => ?_, fun n2 cls dx S' H' x' J l2 m' dd hxe => ?_⟩
  · rw [r2.length, List.length_append, har, hlen]
  · exact hq v H' S' ρ1 d (I1.call J hx0 m') (m1.trans m') c1 (I1.answer J m' r') (hpost d hpo)
  · rcases I1.tz with z | z
    · exact hW _ _ _ _ x' (hx x' hxe) (I1.xr n2 cls dx S' H' σ x' (I1.toSta.call J) (Nat.le_trans l2 z) m' (fun _ _ => rfl) dd (hx x' hxe))
    · exact absurd (hx x' hxe) (z x')
end

/-! ### name = [..] -/
section
variable {G : Glob} {X : Cx} {O : XO} {rk : Bool} {h : FG} {tg elt iter : Expr} {ifs : List Expr} {scope : Scope} {own : List (Str × Nat)} {pos spos py : Pos} {y : Str} {fi : FI} {ft : FT} {fe : FE} {ni nt ne : Nat}
theorem setLcT (i : Nat) {B : Bs} {S : Fz} {H : Hp} {σ : L2.St} {ρ : EnvD} {Ed : EndsD} {D : Ends} {wi : TI} (hk : O.keep i = false)
    (qi : ∀ (B : Bs) (S : Fz) (H : Hp) (σ : L2.St) (ρ : EnvD) (Kc : EnvD → List WL.D → Prop) (R : It → Hp → Prop), Eok G X.K O B S H σ ρ → S.T + ni ≤ limT → fi ρ Kc → (∀ J H' S' ρ' xs, Eok G X.K O B S' H' σ ρ' → Sub ni S S' → ItOk G X.K S' J xs → Kc ρ' xs → R J H') → wi σ H R)
    (I : Eok G X.K O B S H σ ρ) (hb : S.T + (ni + sizeLine * (nt + ne)) ≤ limT) (hf : fSetO i (fLc fi h ft fe (own.map (·.2))) Ed ρ) (hx : sizeLine * (nt + ne) = 0 ∨ ∀ x, ¬ O.xd x) (E : EOk G X.K O rk (ni + sizeLine * (nt + ne)) B S Ed D) :
    tAsg (tLc wi (tgCan G X.K O.none (own.map (·.2)) h) (ttCan G X.K O.none true nt ft) (tCan G X.K O.none .st true ne fe) (own.map (·.2))) (gName i) D σ H := by
  refine qi B S H σ ρ _ _ I (by omega) hf fun J H1 S1 ρ1 xs I1 m1 J1 h1 => ?_
  refine lc_read (Q := fun x H1 => gName i x σ H1 D.nx) (Kc := fun d => ownOf d fun o => Ed.nx (ρ1.set i (some (.own o)))) I1 (by have := m1.lo; omega) J1 h1.1 h1.2.1 h1.2.2 hx fun v H' S' d I' m' r' k' => ?_
  obtain ⟨o, rfl, hc, h2⟩ := ownOf_inv k'
  exact E.nx _ _ _ _ (I'.setO hk hc r') (m1.trans m') h2
theorem s_setOLc (i : Nat) (hc : X.calm = true) (hN : X.N.Nodup) (hi : PDi G X O tg iter ni fi) (ok : BlkOk X.N X.env.scope scope own)
    (hg : ∀ (s : Shared) (H : Hp) (C : Addr) (cl : List (Str × Addr)) (fp : List Addr), PDg G (X.blk s H scope (compEnvC scope cl C X.env) fp) O.none tg (own.map (·.2)) h)
    (ht : ∀ (s : Shared) (H : Hp) (C : Addr) (cl : List (Str × Addr)) (fp : List Addr), PDts G (X.blk s H scope (compEnvC scope cl C X.env) fp) O.none ifs true nt ft)
    (he : ∀ (s : Shared) (H : Hp) (C : Addr) (cl : List (Str × Addr)) (fp : List Addr), PDe G (X.blk s H scope (compEnvC scope cl C X.env) fp) O.none elt .st true ne fe)
    (hk : O.keep i = false := by rfl) (hy : X.N[i]? = some y := by rfl) (hyl : X.env.scope.names.lookup y = some .local := by rfl) (hl : (py.line == pos.line) = true := by rfl) (hkd : X.env.scope.kind = .function := by rfl) (hno : (scope.names.any fun (n, k) => n == y && (k == .local || k == .cell)) = false := by decide +kernel)
    (hx : sizeLine * (nt + ne) = 0 ∨ ∀ x, ¬ O.xd x := by first | exact .inl rfl | exact .inr fun _ z => z) (hs : ∀ x, foldedSetIterable iter X.env x = pure x := by intro _; rfl) : PDs G X O rk (.Assign [.Name y py] (.ListComp elt [⟨tg, iter, ifs, 0⟩] scope pos) spos) (ni + sizeLine * (nt + ne)) (fSetO i (fLc fi h ft fe (own.map (·.2)))) := by
  obtain ⟨wi, pi, qi⟩ := hi.run
  refine ⟨_, ps_setLc (g := tgCan G X.K O.none (own.map (·.2)) h) (tt := ttCan G X.K O.none true nt ft) (te := tCan G X.K O.none .st true ne fe) hc hN hy hyl (by first | exact sw_true hkd hyl hl hno | exact sw_true hkd hyl hl) pi ok (fun s H C cl fp => (hg s H C cl fp).can) (fun s H C cl fp => (ht s H C cl fp).run) (fun s H C cl fp => (he s H C cl fp).can) hs, fun B S H σ ρ Ed D I hb hf E => setLcT i hk qi I hb hf hx E⟩
end
end WL

/-! WH: operators over data. -/
namespace WL
open PySem PySem.Spec PyProof.Rows L2
section
variable {G : Glob} {X : Cx} {O : XO}
/-! ### arithmetic -/
def opAdd (x y : D) (P : D → Prop) : Prop := match x, y with
  | .int i, .int j => P (.int (i + j))
  | .str a, .str b => a.length + b.length ≤ sizeLine ∧ P (.str (a ++ b))
  | .lst a, .lst b => a.length + b.length ≤ sizeLine ∧ P (.lst (a ++ b))
  | .tup a, .tup b => a.length + b.length ≤ sizeLine ∧ P (.tup (a ++ b))
  | _, _ => False
abbrev rAddA (K : PySem.W.Frag) : R2 := fun x y H Q => (∃ i j, x = .int i ∧ y = .int j ∧ Q (.int (i + j)) H) ∨ (∃ i j, x = .str i ∧ y = .str j ∧ i.length + j.length ≤ sizeLine ∧ Q (.str (i ++ j)) H) ∨ rCat x y H Q ∨ rCatA K x y H Q
theorem op_addA : OpR X (binaryOp .Add) (rAddA X.K) := op_add.or (op_add_str.or (op_cat.or op_catA))
theorem s_addA : R2s G X O (rAddA X.K) opAdd .st := by
  intro B S H σ ρ ka kb v w x y Kc Q I r1 r2 h hq
  unfold opAdd at h
  split at h
  · obtain rfl := r1.int I
    obtain rfl := r2.int I
    exact .inl ⟨_, _, rfl, rfl, hq _ H S _ I (Sub.refl _) (Den.int _) h⟩
  · obtain rfl := r1.str I
    obtain rfl := r2.str I
    exact .inr (.inl ⟨_, _, rfl, rfl, h.1, hq _ H S _ I (Sub.refl _) (Den.str _) h.2⟩)
  · obtain ⟨a, vs, rfl, ha, la⟩ := r1.lst I
    obtain ⟨b, ws, rfl, hb, lb⟩ := r2.lst I
    refine .inr (.inr (.inl ⟨a, b, vs, ws, rfl, rfl, ha, hb, by rw [la.length, lb.length]; exact h.1, fun p hp => ?_⟩))
    obtain ⟨I', m⟩ := I.laysF (u := .lst (vs ++ ws)) hp
    exact hq _ _ _ _ I' m (den_lst Fz.put_same (DenL.mono m (paired_append la lb))) h.2
  · obtain ⟨a, vs, rfl, ha, la⟩ := r1.tup I
    obtain ⟨b, ws, rfl, hb, lb⟩ := r2.tup I
    have ra := r1.flat I fun o z => by cases o <;> cases z
    have rb := r2.flat I fun o z => by cases o <;> cases z
    refine .inr (.inr (.inr ⟨a, b, vs, ws, rfl, rfl, SqT.of ha, SqT.of hb, by rw [la.length, lb.length]; exact h.1, fun e => ?_, fun _ e => ?_, fun _ _ p hp => ?_⟩))
    · subst e; cases la
      exact hq _ H S _ I (Sub.refl _) rb h.2
    · subst e; cases lb
      refine hq _ H S _ I (Sub.refl _) ?_ h.2
      rw [List.append_nil]; exact ra
    · obtain ⟨I', m⟩ := I.laysF (u := .tup (vs ++ ws)) hp
      exact hq _ _ _ _ I' m (den_tup Fz.put_same (DenL.mono m (paired_append la lb))) h.2
  · exact h.elim
/-- lists, the result one's own -/
def opCat (x y : D) (P : D → Prop) : Prop := match x, y with
  | .lst a, .lst b => a.length + b.length ≤ sizeLine ∧ P (.lst (a ++ b))
  | _, _ => False
def opI (C : Int → Int → Prop) (f : Int → Int → D) (x y : D) (P : D → Prop) : Prop := match x, y with
  | .int i, .int j => C i j ∧ P (f i j)
  | _, _ => False
def opI0 (f : Int → Int → D) (x y : D) (P : D → Prop) : Prop := match x, y with
  | .int i, .int j => P (f i j)
  | _, _ => False
theorem s_int {C : Int → Int → Prop} {f : Int → Int → V} {f' : Int → Int → D} (hf : ∀ S i j, Den G X.K S (f i j) (f' i j)) : R2s G X O (rI C f) (opI C f') .st := by
  intro B S H σ ρ ka kb v w x y Kc Q I r1 r2 h hq
  unfold opI at h
  split at h
  · obtain rfl := r1.int I
    obtain rfl := r2.int I
    exact ⟨_, _, rfl, rfl, h.1, hq _ H S _ I (Sub.refl _) (hf S _ _) h.2⟩
  · exact h.elim
theorem s_int0 {f : Int → Int → V} {f' : Int → Int → D} (hf : ∀ S i j, Den G X.K S (f i j) (f' i j)) : R2s G X O (rI0 f) (opI0 f') .st := by
  intro B S H σ ρ ka kb v w x y Kc Q I r1 r2 h hq
  unfold opI0 at h
  split at h
  · obtain rfl := r1.int I
    obtain rfl := r2.int I
    exact ⟨_, _, rfl, rfl, hq _ H S _ I (Sub.refl _) (hf S _ _) h⟩
  · exact h.elim
abbrev opSub := opI0 fun i j => .int (i - j)
abbrev opMul := opI CMul fun i j => .int (i * j)
abbrev opDiv := opI CDivW fun i j => .int (i / j)
abbrev opMod := opI (fun _ j => 0 < j) fun i j => .int (i % j)
/-- a power of not too many bits -/
def CPowW (i j : Int) : Prop := 0 ≤ j ∧ j ≤ 1000 ∧ i.natAbs.log2 < 100000
theorem op_powW : OpR X (binaryOp .Pow) (rI CPowW fun i j => .int (i ^ j.toNat)) := L2.opI fun i j _ _ _ _ _ hc q => PyProof.Rows.pow_int hc.1 (by
  have h1 : Builtin.Int.intBits i ≤ i.natAbs.log2 + 1 := by
    unfold Builtin.Int.intBits
    split <;> omega
  have h2 : (Builtin.Int.intBits i : Int) ≤ 100000 := by have := hc.2.2; omega
  have h3 : (Builtin.Int.intBits i : Int) * j ≤ 100000 * 1000 := Int.mul_le_mul h2 hc.2.1 hc.1 (by decide)
  exact Int.le_trans h3 (by decide)) q
abbrev opPow := opI CPowW fun i j => .int (i ^ j.toNat)
theorem s_sub : R2s G X O (rI0 fun i j => .int (i - j)) opSub .st := s_int0 fun _ _ _ => .int _
theorem s_mul : R2s G X O (rI CMul fun i j => .int (i * j)) opMul .st := s_int fun _ _ _ => .int _
theorem s_div : R2s G X O (rI CDivW fun i j => .int (i / j)) opDiv .st := s_int fun _ _ _ => .int _
theorem s_mod : R2s G X O (rI (fun _ j => 0 < j) fun i j => .int (i % j)) opMod .st := s_int fun _ _ _ => .int _
theorem s_pow : R2s G X O (rI CPowW fun i j => .int (i ^ j.toNat)) opPow .st := s_int fun _ _ _ => .int _
abbrev opLt := opI0 fun i j => .bl (decide (i < j))
abbrev opLe := opI0 fun i j => .bl (decide (i ≤ j))
abbrev opGt := opI0 fun i j => .bl (decide (j < i))
abbrev opGe := opI0 fun i j => .bl (decide (j ≤ i))
theorem s_lt : R2s G X O (rI0 fun i j => .bl (decide (i < j))) opLt .st := s_int0 fun _ _ _ => .bl _
theorem s_le : R2s G X O (rI0 fun i j => .bl (decide (i ≤ j))) opLe .st := s_int0 fun _ _ _ => .bl _
theorem s_gt : R2s G X O (rI0 fun i j => .bl (decide (j < i))) opGt .st := s_int0 fun _ _ _ => .bl _
theorem s_ge : R2s G X O (rI0 fun i j => .bl (decide (j ≤ i))) opGe .st := s_int0 fun _ _ _ => .bl _
def uInt (f : Int → D) (x : D) (P : D → Prop) : Prop := match x with
  | .int i => P (f i)
  | _ => False
theorem s_neg : R1s G X O (rU fun i => .int (-i)) (uInt fun i => .int (-i)) .st := by
  intro B S H σ ρ ka v x Kc Q I r1 h hq
  unfold uInt at h
  split at h
  · obtain rfl := r1.int I
    exact ⟨_, rfl, hq _ H S _ I (Sub.refl _) (Den.int _) h⟩
  · exact h.elim

/-! ### plain data: ==, !=, in -/
mutual
def toPy : D → PyData
  | .bl b => .bool b
  | .int i => .int i
  | .str x => .str x
  | .tup xs => .tuple (toPys xs)
  | .lst xs => .list (toPys xs)
  | .wtp xs => .tuple (toPys xs)
  | _ => .none
def toPys : List D → List PyData
  | [] => []
  | x :: xs => toPy x :: toPys xs
end
mutual
/-- nothing but None, bools, ints, texts, tuples, lists -/
def plain : D → Bool
  | .non => true
  | .bl _ => true
  | .int _ => true
  | .str x => PyData.strOk x
  | .tup xs => plains xs
  | .lst xs => plains xs
  | .wtp xs => plains xs
  | _ => false
def plains : List D → Bool
  | [] => true
  | x :: xs => plain x && plains xs
end
mutual
def deep : D → Nat
  | .tup xs => deeps xs + 1
  | .lst xs => deeps xs + 1
  | .wtp xs => deeps xs + 1
  | _ => 0
def deeps : List D → Nat
  | [] => 0
  | x :: xs => max (deep x) (deeps xs)
end
mutual
theorem toPy_depth : ∀ d : D, (toPy d).depth = deep d
  | .non => by simp [toPy, deep, PyData.depth]
  | .bl _ => by simp [toPy, deep, PyData.depth]
  | .int _ => by simp [toPy, deep, PyData.depth]
  | .str _ => by simp [toPy, deep, PyData.depth]
  | .tup xs => by simp [toPy, deep, PyData.depth, toPys_depth xs]
  | .lst xs => by simp [toPy, deep, PyData.depth, toPys_depth xs]
  | .wtp xs => by simp [toPy, deep, PyData.depth, toPys_depth xs]
  | .dct _ => by simp [toPy, deep, PyData.depth]
  | .ins _ _ => by simp [toPy, deep, PyData.depth]
  | .exc _ _ => by simp [toPy, deep, PyData.depth]
  | .cls _ => by simp [toPy, deep, PyData.depth]
  | .tok _ => by simp [toPy, deep, PyData.depth]
  | .fn _ _ _ => by simp [toPy, deep, PyData.depth]
  | .wls _ => by simp [toPy, deep, PyData.depth]
theorem toPys_depth : ∀ ds : List D, PyData.depthAll (toPys ds) = deeps ds
  | [] => by simp [toPys, deeps, PyData.depthAll]
  | x :: xs => by simp [toPys, deeps, PyData.depthAll, toPy_depth x, toPys_depth xs]
end
mutual
theorem toPy_lay : ∀ d : D, plain d = true → (toPy d).canLay0 = true
  | .non, _ => by simp [toPy, PyData.canLay0]
  | .bl _, _ => by simp [toPy, PyData.canLay0]
  | .int _, _ => by simp [toPy, PyData.canLay0]
  | .str x, h => by simpa [toPy, PyData.canLay0, plain] using h
  | .tup xs, h => by simp only [toPy, PyData.canLay0]; exact toPys_lay xs (by simpa [plain] using h)
  | .lst xs, h => by simp only [toPy, PyData.canLay0]; exact toPys_lay xs (by simpa [plain] using h)
  | .wtp xs, h => by simp only [toPy, PyData.canLay0]; exact toPys_lay xs (by simpa [plain] using h)
  | .dct _, h => by simp [plain] at h
  | .ins _ _, h => by simp [plain] at h
  | .exc _ _, h => by simp [plain] at h
  | .cls _, h => by simp [plain] at h
  | .tok _, h => by simp [plain] at h
  | .fn _ _ _, h => by simp [plain] at h
  | .wls _, h => by simp [plain] at h
theorem toPys_lay : ∀ ds : List D, plains ds = true → PyData.canLayAll0 (toPys ds) = true
  | [], _ => by simp [toPys, PyData.canLayAll0]
  | x :: xs, h => by
    simp only [plains, Bool.and_eq_true] at h
    simp only [toPys, PyData.canLayAll0, Bool.and_eq_true]
    exact ⟨toPy_lay x h.1, toPys_lay xs h.2⟩
end
def pyEq (x y : D) : Bool := PyData.eqv (toPy x) (toPy y)
theorem dpAll_of {K : PySem.W.Frag} {H : Hp} : ∀ {ds : List D} {vs : List V}, vs.length = ds.length → (∀ (i : Nat) v d, vs[i]? = some v → ds[i]? = some d → Dp K H v (toPy d)) → DpAll K H vs (toPys ds)
  | [], [], _, _ => by simp only [toPys]; exact .nil
  | d :: ds, v :: vs, hl, h => by
    simp only [toPys]
    exact .cons (h 0 v d rfl rfl) (dpAll_of (by simpa using hl) fun i x y h1 h2 => h (i + 1) x y (by simpa using h1) (by simpa using h2))
  | [], _ :: _, hl, _ => by simp at hl
  | _ :: _, [], hl, _ => by simp at hl
theorem plains_at : ∀ {ds : List D}, plains ds = true → ∀ (i : Nat) d, ds[i]? = some d → plain d = true
  | [], _, i, d, e => by simp at e
  | x :: xs, h, i, d, e => by
    simp only [plains, Bool.and_eq_true] at h
    cases i with
    | zero => simp at e; subst e; exact h.1
    | succ i => exact plains_at h.2 i d (by simpa using e)
theorem Den.dp {K : PySem.W.Frag} {S : Fz} {H : Hp} {v : V} {d : D} (h : Den G K S v d) (le : ∀ a o, S a = some o → H a = some o) (hp : plain d = true) : Dp K H v (toPy d) := by
  induction h with
  | non => simp only [toPy]; exact .non
  | bl b => simp only [toPy]; exact .bl b
  | int i => simp only [toPy]; exact .int i
  | str x => simp only [toPy]; exact .str x
  | @tup a vs ds h l r ih =>
    simp only [toPy]
    have hp' : plains ds = true := by simpa only [plain] using hp
    exact .tup (SqT.of (le _ _ h)) (dpAll_of l fun i v d h1 h2 => ih i v d h1 h2 (plains_at hp' i d h2))
  | @lst a vs ds h l r ih =>
    simp only [toPy]
    have hp' : plains ds = true := by simpa only [plain] using hp
    exact .lst (SqL.of (le _ _ h)) (dpAll_of l fun i v d h1 h2 => ih i v d h1 h2 (plains_at hp' i d h2))
  | @wtp a vs ds h l r ih =>
    simp only [toPy]
    have hp' : plains ds = true := by simpa only [plain] using hp
    exact .tup (h H) (dpAll_of l fun i v d h1 h2 => ih i v d h1 h2 (plains_at hp' i d h2))
  | dK => simp [plain] at hp
  | dT => simp [plain] at hp
  | ins => simp [plain] at hp
  | cls => simp [plain] at hp
  | tok => simp [plain] at hp
  | wls => simp [plain] at hp
  | exc0 => simp [plain] at hp
  | exc1 => simp [plain] at hp
  | excR0 => simp [plain] at hp
  | excR1 => simp [plain] at hp
  | fn => simp [plain] at hp
theorem ROk.dp {B : Bs} {S : Fz} {H : Hp} {σ : L2.St} {ρ : EnvD} {k : Kd} {v : V} {d : D} (I : Eok G X.K O B S H σ ρ) (r : ROk G X.K B S H σ ρ v d k) (hp : plain d = true) : Dp X.K H v (toPy d) := by
  rcases r.own I with r | ⟨a, o, rfl, rfl, w⟩
  · exact r.dp I.le hp
  · cases o with
    | dct ps => simp [Own.d, plain] at hp
    | ins c fs => simp [Own.d, plain] at hp
    | lst xs =>
      obtain ⟨vs, h, l⟩ := w
      have hp' : plains xs = true := by simpa only [Own.d, plain] using hp
      simp only [Own.d, toPy]
      exact .lst (SqL.of h) (dpAll_of l.length fun i v d h1 h2 => (paired_at l i v d h1 h2).dp I.le (plains_at hp' i d h2))
def opEq (x y : D) (P : D → Prop) : Prop := (plain x = true ∧ plain y = true ∧ deep x ≤ 64 ∧ deep y ≤ 64) ∧ P (.bl (pyEq x y))
def opNe (x y : D) (P : D → Prop) : Prop := (plain x = true ∧ plain y = true ∧ deep x ≤ 64 ∧ deep y ≤ 64) ∧ P (.bl (!pyEq x y))
theorem shaped_of {d : D} (h : plain d = true) (hd : deep d ≤ 64) : SeqAt.shaped (toPy d) = true := by
  unfold SeqAt.shaped
  rw [toPy_lay d h, toPy_depth]
  simpa using hd
theorem s_eq : R2s G X O (rEqD X.K) opEq .st := by
  intro B S H σ ρ ka kb v w x y Kc Q I r1 r2 h hq
  obtain ⟨⟨p1, p2, d1, d2⟩, h⟩ := h
  exact ⟨_, _, r1.dp I p1, r2.dp I p2, shaped_of p1 d1, shaped_of p2 d2, hq _ H S _ I (Sub.refl _) (Den.bl _) h⟩
theorem s_ne : R2s G X O (rNeD X.K) opNe .st := by
  intro B S H σ ρ ka kb v w x y Kc Q I r1 r2 h hq
  obtain ⟨⟨p1, p2, d1, d2⟩, h⟩ := h
  exact ⟨_, _, r1.dp I p1, r2.dp I p2, shaped_of p1 d1, shaped_of p2 d2, hq _ H S _ I (Sub.refl _) (Den.bl _) h⟩
/-- is None -/
def isN : D → Bool
  | .non => true
  | _ => false
def opIsN (x y : D) (P : D → Prop) : Prop := isN y = true ∧ P (.bl (isN x))
def opNotN (x y : D) (P : D → Prop) : Prop := isN y = true ∧ P (.bl (!isN x))
theorem isN_rel {B : Bs} {S : Fz} {H : Hp} {σ : L2.St} {ρ : EnvD} {k : Kd} {v : V} {d : D} (I : Eok G X.K O B S H σ ρ) (r : ROk G X.K B S H σ ρ v d k) : decide (v = .non) = isN d := by
  rcases r.own I with r | ⟨a, o, rfl, rfl, w⟩
  · cases r <;> rfl
  · cases o <;> rfl
theorem s_notN : R2s G X O (fun x y H Q => y = .non ∧ Q (.bl (!decide (x = .non))) H) opNotN .st := by
  intro B S H σ ρ ka kb v w x y Kc Q I r1 r2 h hq
  obtain ⟨h1, h⟩ := h
  have e := isN_rel I r2
  rw [h1] at e
  refine ⟨of_decide_eq_true e, ?_⟩
  rw [isN_rel I r1]
  exact hq _ H S _ I (Sub.refl _) (Den.bl _) h
end
end WL

/-! WI: items, slices, membership, dicts over data. -/
namespace WL
open PySem PySem.Spec PyProof.Rows L2
/-! ### keys -/
def key1 : D → Option Key
  | .int i => some (.inl i)
  | .str x => some (.inr x)
  | _ => none
def keys1 : List D → Option (List Key)
  | [] => some []
  | d :: ds => (key1 d).bind fun k => (keys1 ds).map (k :: ·)
/-- the key that a datum is -/
def keyOf : D → Option (Key ⊕ List Key)
  | .tup xs => (keys1 xs).map .inr
  | d => (key1 d).map .inl
theorem key1_D (k : Key) : key1 (keyD k) = some k := by cases k <;> rfl
theorem keys1_D : ∀ ks : List Key, keys1 (ks.map keyD) = some ks
  | [] => rfl
  | k :: ks => by simp [keys1, key1_D, keys1_D ks]
theorem key1_inv {d : D} {k : Key} (h : key1 d = some k) : d = keyD k := by
  cases d <;> simp [key1] at h <;> subst h <;> rfl
theorem keys1_inv : ∀ {ds : List D} {ks : List Key}, keys1 ds = some ks → ds = ks.map keyD
  | [], ks, h => by simp [keys1] at h; subst h; rfl
  | d :: ds, ks, h => by
    unfold keys1 at h
    cases e : key1 d with
    | none => rw [e] at h; simp at h
    | some k =>
      rw [e] at h
      cases e2 : keys1 ds with
      | none => rw [e2] at h; simp at h
      | some l =>
        rw [e2] at h
        simp at h
        subst h
        rw [key1_inv e, keys1_inv e2]; rfl
theorem keyOf_k (k : Key) : keyOf (keyD k) = some (.inl k) := by cases k <;> rfl
theorem keyOf_t (ks : List Key) : keyOf (.tup (ks.map keyD)) = some (.inr ks) := by simp [keyOf, keys1_D]
theorem keyOf_inl {d : D} {k : Key} (h : keyOf d = some (.inl k)) : d = keyD k := by
  unfold keyOf at h
  split at h
  · simp at h
  · cases e : key1 d with
    | none => rw [e] at h; simp at h
    | some k' => rw [e] at h; simp at h; subst h; exact key1_inv e
theorem keyOf_inr {d : D} {ks : List Key} (h : keyOf d = some (.inr ks)) : d = .tup (ks.map keyD) := by
  unfold keyOf at h
  split at h
  · rename_i xs
    cases e : keys1 xs with
    | none => rw [e] at h; simp at h
    | some l => rw [e] at h; simp at h; subst h; rw [keys1_inv e]
  · cases e : key1 d with
    | none => rw [e] at h; simp at h
    | some k' => rw [e] at h; simp at h
/-- what a dict holds at a key -/
def lookD (ps : List (D × D)) (k : D) : Option D := (ps.find? fun p => decide (keyOf p.1 = keyOf k)).map (·.2)
/-- d[k] = y -/
def putD (ps : List (D × D)) (k y : D) : List (D × D) := if (ps.any fun p => decide (keyOf p.1 = keyOf k)) = true then ps.map fun p => if keyOf p.1 = keyOf k then (p.1, y) else p else ps ++ [(k, y)]
def RelOD (G : Glob) (K : PySem.W.Frag) (S : Fz) : Option V → Option D → Prop
  | some v, some d => Den G K S v d
  | none, none => True
  | _, _ => False
section
variable {G : Glob} {K : PySem.W.Frag} {S : Fz}
theorem DenK.look {kvs : List (Key × V)} {ps : List (D × D)} (h : DenK G K S kvs ps) (k : Key) : RelOD G K S (valV kvs k) (lookD ps (keyD k)) := by
  induction h with
  | nil => exact trivial
  | @cons a b l₁ l₂ r _ ih =>
    by_cases e : a.1 = k
    · rw [valV_pos e]
      have : keyOf b.1 = keyOf (keyD k) := by rw [r.1, e]
      simp only [lookD, List.find?_cons, this, decide_true]
      exact r.2
    · rw [valV_neg e]
      have : ¬ keyOf b.1 = keyOf (keyD k) := by
        rw [r.1, keyOf_k, keyOf_k]
        intro z; exact e (by simpa using z)
      simp only [lookD, List.find?_cons, this, decide_false]
      exact ih
theorem DenT.look {kvs : List (List Key × V)} {ps : List (D × D)} (h : DenT G K S kvs ps) (k : List Key) : RelOD G K S (valV kvs k) (lookD ps (.tup (k.map keyD))) := by
  induction h with
  | nil => exact trivial
  | @cons a b l₁ l₂ r _ ih =>
    by_cases e : a.1 = k
    · rw [valV_pos e]
      have : keyOf b.1 = keyOf (.tup (k.map keyD)) := by rw [r.1, e]
      simp only [lookD, List.find?_cons, this, decide_true]
      exact r.2
    · rw [valV_neg e]
      have : ¬ keyOf b.1 = keyOf (.tup (k.map keyD)) := by
        rw [r.1, keyOf_t, keyOf_t]
        intro z; exact e (by simpa using z)
      simp only [lookD, List.find?_cons, this, decide_false]
      exact ih
theorem paired_map {α β α' β' : Type} {F : α → β → Prop} {F' : α' → β' → Prop} {f : α → α'} {g : β → β'} (hf : ∀ a b, F a b → F' (f a) (g b)) {l : List α} {m : List β} (h : Paired F l m) : Paired F' (l.map f) (m.map g) := by
  induction h with
  | nil => exact .nil
  | cons r _ ih => exact .cons (hf _ _ r) ih
theorem DenK.anyk {kvs : List (Key × V)} {ps : List (D × D)} (h : DenK G K S kvs ps) (k : Key) : (ps.any fun p => decide (keyOf p.1 = keyOf (keyD k))) = kvs.any fun kv => decide (kv.1 = k) := by
  induction h with
  | nil => rfl
  | @cons a b l₁ l₂ r _ ih =>
    simp only [List.any_cons, ih]
    congr 1
    rw [r.1, keyOf_k, keyOf_k]
    simp
theorem DenT.anyk {kvs : List (List Key × V)} {ps : List (D × D)} (h : DenT G K S kvs ps) (k : List Key) : (ps.any fun p => decide (keyOf p.1 = keyOf (.tup (k.map keyD)))) = kvs.any fun kv => decide (kv.1 = k) := by
  induction h with
  | nil => rfl
  | @cons a b l₁ l₂ r _ ih =>
    simp only [List.any_cons, ih]
    congr 1
    rw [r.1, keyOf_t, keyOf_t]
    simp
theorem DenK.put {kvs : List (Key × V)} {ps : List (D × D)} (h : DenK G K S kvs ps) (k : Key) {v : V} {y : D} (r : Den G K S v y) : DenK G K S (putK kvs k v) (putD ps (keyD k) y) := by
  unfold putK putD
  rw [h.anyk k]
  split
  · refine paired_map (fun a b r' => ?_) h
    by_cases e : a.1 = k
    · have : keyOf b.1 = keyOf (keyD k) := by rw [r'.1, e]
      rw [if_pos e, if_pos this]; exact ⟨r'.1, r⟩
    · have : ¬ keyOf b.1 = keyOf (keyD k) := by
        rw [r'.1, keyOf_k, keyOf_k]
        intro z; exact e (by simpa using z)
      rw [if_neg e, if_neg this]; exact r'
  · exact h.snoc ⟨rfl, r⟩
theorem DenT.put {kvs : List (List Key × V)} {ps : List (D × D)} (h : DenT G K S kvs ps) (k : List Key) {v : V} {y : D} (r : Den G K S v y) : DenT G K S (putK kvs k v) (putD ps (.tup (k.map keyD)) y) := by
  unfold putK putD
  rw [h.anyk k]
  split
  · refine paired_map (fun a b r' => ?_) h
    by_cases e : a.1 = k
    · have : keyOf b.1 = keyOf (.tup (k.map keyD)) := by rw [r'.1, e]
      rw [if_pos e, if_pos this]; exact ⟨r'.1, r⟩
    · have : ¬ keyOf b.1 = keyOf (.tup (k.map keyD)) := by
        rw [r'.1, keyOf_t, keyOf_t]
        intro z; exact e (by simpa using z)
      rw [if_neg e, if_neg this]; exact r'
  · exact h.snoc ⟨rfl, r⟩
end
/-- is the key of the dict's kind (a tuple, or a number or text)? -/
def isT : D → Bool
  | .tup _ => true
  | _ => false
def fits (ps : List (D × D)) (k : D) : Bool := (keyOf k).isSome && match ps with
  | [] => !isT k
  | p :: _ => isT p.1 == isT k
theorem fits_inl {ps : List (D × D)} {k : D} (h : fits ps k = true) : (∃ k', k = keyD k' ∧ ∀ p ps', ps = p :: ps' → isT p.1 = false) ∨ ∃ ks p ps', k = D.tup (List.map keyD ks) ∧ ps = p :: ps' ∧ isT p.1 = true := by
  unfold fits at h
  simp only [Bool.and_eq_true] at h
  obtain ⟨h1, h2⟩ := h
  obtain ⟨q, hq⟩ := Option.isSome_iff_exists.mp h1
  cases q with
  | inl k' =>
    have e := keyOf_inl hq
    have ht : isT k = false := by rw [e]; cases k' <;> rfl
    refine .inl ⟨k', e, fun p ps' ep => ?_⟩
    rw [ep, ht] at h2
    simpa using h2
  | inr ks =>
    have e := keyOf_inr hq
    have ht : isT k = true := by rw [e]; rfl
    cases ps with
    | nil => rw [ht] at h2; simp at h2
    | cons p ps' =>
      rw [ht] at h2
      exact .inr ⟨ks, p, ps', e, rfl, by simpa using h2⟩
section
variable {G : Glob} {X : Cx} {O : XO} {B : Bs} {S : Fz} {H : Hp} {σ : L2.St} {ρ : EnvD} {k ka : Kd} {v : V}
theorem keyD_notT (k : Key) : isT (keyD k) = false := by cases k <;> rfl
theorem den_key {K : PySem.W.Frag} {w : V} {k : Key} (r : Den G K S w (keyD k)) : w = kV k := by
  cases k <;> cases r <;> rfl
theorem den_keys {K : PySem.W.Frag} : ∀ {ks : List Key} {ws : List V}, DenL G K S ws (ks.map keyD) → ws = ks.map kV
  | [], _, h => by cases h; rfl
  | k :: ks, _, h => by
    cases h with
    | cons r t => rw [den_key r, den_keys t]; rfl
/-- what the dict tells at a key -/
theorem ROk.dget {ps : List (D × D)} {w : V} {y : D} (I : Eok G X.K O B S H σ ρ) (r : ROk G X.K B S H σ ρ v (.dct ps) k) (ry : Den G X.K S w y) (h : fits ps y = true) : ∃ a o, v = .ref a ∧ DGet H a w o ∧ RelOD G X.K S o (lookD ps y) := by
  obtain ⟨a, rfl, hd⟩ := r.dct I
  rcases fits_inl h with ⟨k', rfl, hn⟩ | ⟨ks, p, ps', rfl, rfl, ht⟩
  · obtain rfl := den_key ry
    rcases hd with ⟨kvs, hr, dk⟩ | ⟨kvs, hr, nn, dt⟩
    · exact ⟨a, _, rfl, .inl ⟨kvs, k', hr, rfl, rfl⟩, dk.look k'⟩
    · cases dt with
      | nil => exact absurd rfl nn
      | cons q _ =>
        have := hn _ _ rfl
        rw [q.1] at this
        simp [isT] at this
  · obtain ⟨b, ws, rfl, hb, lb⟩ := ry.tup_inv
    obtain rfl := den_keys lb
    rcases hd with ⟨kvs, hr, dk⟩ | ⟨kvs, hr, nn, dt⟩
    · cases dk with
      | cons q _ => rw [q.1, keyD_notT] at ht; cases ht
    · exact ⟨a, _, rfl, .inr ⟨kvs, ks, b, hr, rfl, I.le _ _ hb, rfl⟩, dt.look ks⟩
/-- d[k], xs[i], t[i], text[i] -/
abbrev rIxD : R2 := fun x y H Q => ∃ a v, x = .ref a ∧ DGet H a y (some v) ∧ Q v H
theorem ix_dict (hu : X.A.units + 1 < cLine) : IxR X rIxD := by
  intro value slice pins s σ H x y v u Q I rx ry h hs
  obtain ⟨a, w, rfl, g, q⟩ := h
  obtain rfl : v = Value.ref a := rx
  exact tail_any (dict_typeIs I g) PySem.F.slot_dict_getitem.lookup (d_getItem hu I g ry fun w' s3 I3 rw' => ⟨w, H, I3, rw', q⟩) hs
def opIx (x y : D) (P : D → Prop) : Prop := match x, y with
  | .lst xs, .int i => match atI xs i with | some d => P d | none => False
  | .tup xs, .int i => match atI xs i with | some d => P d | none => False
  | .str z, .int i => z.length ≤ sizeLine ∧ match atI z.cps.toList i with | some c => P (.str ⟨#[c]⟩) | none => False
  | .dct ps, k => fits ps k = true ∧ match lookD ps k with | some d => P d | none => False
  | _, _ => False
abbrev rIxA (K : PySem.W.Frag) : R2 := fun x y H Q => rIx K x y H Q ∨ rIxD x y H Q
theorem atI_paired {K : PySem.W.Frag} {vs : List V} {ds : List D} {i : Int} {d : D} (r : DenL G K S vs ds) (h : atI ds i = some d) : ∃ v, atI vs i = some v ∧ Den G K S v d := by
  unfold atI at h ⊢
  rw [r.length]
  cases e : ixN ds.length i with
  | none => rw [e] at h; simp at h
  | some j =>
    rw [e] at h
    have hj := (ixN_seq e).2.1
    obtain ⟨v, d', e1, e2, q⟩ := paired_some r hj
    have h : ds[j]? = some d := h
    rw [e2] at h; cases h
    exact ⟨v, e1, q⟩
theorem s_ix : R2s G X O (rIxA X.K) opIx .st := by
  intro B S H σ ρ ka kb v w x y Kc Q I r1 r2 h hq
  unfold opIx at h
  split at h
  · split at h
    · rename_i e
      obtain ⟨a, vs, rfl, ha, la⟩ := r1.lst I
      obtain rfl := r2.int I
      obtain ⟨z, ez, dz⟩ := atI_paired la e
      exact .inl (.inl ⟨a, vs, _, z, rfl, rfl, SqL.of ha, ez, hq _ H S _ I (Sub.refl _) dz h⟩)
    · exact h.elim
  · split at h
    · rename_i e
      obtain ⟨a, vs, rfl, ha, la⟩ := r1.tup I
      obtain rfl := r2.int I
      obtain ⟨z, ez, dz⟩ := atI_paired la e
      exact .inl (.inr (.inl ⟨a, vs, _, z, rfl, rfl, SqT.of ha, ez, hq _ H S _ I (Sub.refl _) dz h⟩))
    · exact h.elim
  · obtain ⟨hz, h⟩ := h
    split at h
    · rename_i e
      obtain rfl := r1.str I
      obtain rfl := r2.int I
      exact .inl (.inr (.inr ⟨_, _, _, rfl, rfl, hz, e, hq _ H S _ I (Sub.refl _) (Den.str _) h⟩))
    · exact h.elim
  · obtain ⟨hf, h⟩ := h
    have rw' : Den G X.K S w y := r2.flat I fun o z => by
      rw [z] at hf
      cases o <;> simp [fits, Own.d, keyOf, key1] at hf
    obtain ⟨a, o, rfl, g, ro⟩ := r1.dget I rw' hf
    split at h
    · rename_i e
      rw [e] at ro
      cases o with
      | none => exact ro.elim
      | some z => exact .inr ⟨a, z, rfl, g, hq _ H S _ I (Sub.refl _) ro h⟩
    · exact h.elim
  · exact h.elim
theorem e_ix {a b : Expr} {ca cb : Bool} {na nb : Nat} {fa fb : FE} {kb : Kd} {pos : Pos} (hu : X.A.units + 1 < cLine) (ha : PDe G X O a ka ca na fa) (hb : PDe G X O b kb cb nb fb) (hk : okK ka cb = true := by rfl) (hs : PlainIx b := by exact fun _ _ => rfl) :
    PDe G X O (.Subscript a b pos) .st (ca && cb) (na + nb) (fOp opIx fa fb) := by
  obtain ⟨ta, pa, qa⟩ := ha.run
  obtain ⟨tb, pb, qb⟩ := hb.run
  exact ⟨_, pe_ix (ix_seq.or (ix_dict hu)) pa pb hs, e_opT s_ix hk qa qb⟩

/-! ### in, not in -/
/-- one text within another -/
def subS (a b : Str) : Bool := !(Builtin.Str.occurrences b a 0 b.length 1).isEmpty
def flatD : D → Bool
  | .non => true
  | .bl _ => true
  | .int _ => true
  | .str _ => true
  | _ => false
def eqF : D → D → Bool
  | .non, .non => true
  | .bl a, .bl b => a == b
  | .bl a, .int b => (if a then 1 else 0) == b
  | .int a, .bl b => a == (if b then 1 else 0)
  | .int a, .int b => a == b
  | .str a, .str b => a == b
  | _, _ => false
def memF (x : D) (xs : List D) : Bool := xs.any fun y => eqF y x
def isIn (x y : D) (P : Bool → Prop) : Prop := match y with
  | .str b => match x with | .str a => P (subS a b) | _ => False
  | .lst xs => (flatD x = true ∧ xs.all flatD = true) ∧ P (memF x xs)
  | .tup xs => (flatD x = true ∧ xs.all flatD = true) ∧ P (memF x xs)
  | .wtp xs => (flatD x = true ∧ xs.all flatD = true) ∧ P (memF x xs)
  | .dct ps => fits ps x = true ∧ P (lookD ps x).isSome
  | _ => False
theorem flat_den {K : PySem.W.Frag} {d : D} (r : Den G K S v d) (h : flatD d = true) : flatV v = true := by
  cases r <;> simp [flatD] at h <;> rfl
theorem eqF_den {K : PySem.W.Frag} {w : V} {d e : D} (r : Den G K S v d) (q : Den G K S w e) (h : flatD d = true) (h' : flatD e = true) : eqV v w = eqF d e := by
  cases r <;> simp [flatD] at h <;> cases q <;> simp [flatD] at h' <;> rfl
theorem flats_den {K : PySem.W.Frag} {vs : List V} {ds : List D} (r : DenL G K S vs ds) (h : ds.all flatD = true) : vs.all flatV = true := by
  induction r with
  | nil => rfl
  | cons q _ ih =>
    simp only [List.all_cons, Bool.and_eq_true] at h ⊢
    exact ⟨flat_den q h.1, ih h.2⟩
theorem memF_den {K : PySem.W.Frag} {x : D} {vs : List V} {ds : List D} (r : DenL G K S vs ds) (q : Den G K S v x) (hx : flatD x = true) (h : ds.all flatD = true) : inV v vs = memF x ds := by
  unfold inV memF
  induction r with
  | nil => rfl
  | cons q' _ ih =>
    simp only [List.all_cons, Bool.and_eq_true] at h
    simp only [List.any_cons, eqF_den q' q h.1 hx, ih h.2]
abbrev rInA (K : PySem.W.Frag) (neg : Bool) : R2 := fun x y H Q => rIn K neg x y H Q ∨ (∃ i j, x = .str i ∧ y = .str j ∧ Q (.bl (if neg then !subS i j else subS i j)) H) ∨ ∃ a o, y = .ref a ∧ DGet H a x o ∧ Q (.bl (if neg then !o.isSome else o.isSome)) H
theorem op_inA (hu : X.A.units + 1 < cLine) : OpR X (compareOp .In) (rInA X.K false) := by
  refine op_in_seq.or (OpR.or (fun pins s σ H x y v u Q I rx ry h => ?_) fun pins s σ H x y v u Q I rx ry h => ?_)
  · exact op_in_str pins s σ H x y v u Q I rx ry h
  · obtain ⟨a, o, rfl, g, q⟩ := h
    obtain rfl : u = Value.ref a := ry
    exact d_in hu I g rx fun s3 I3 => ⟨.bl o.isSome, H, I3, rfl, q⟩
theorem op_notInA (hu : X.A.units + 1 < cLine) : OpR X (compareOp .NotIn) (rInA X.K true) := by
  refine op_notIn_seq.or (OpR.or (fun pins s σ H x y v u Q I rx ry h => ?_) fun pins s σ H x y v u Q I rx ry h => ?_)
  · exact op_notIn_str pins s σ H x y v u Q I rx ry h
  · obtain ⟨a, o, rfl, g, q⟩ := h
    obtain rfl : u = Value.ref a := ry
    exact d_notIn hu I g rx fun s3 I3 => ⟨.bl (!o.isSome), H, I3, rfl, q⟩
def opIn (neg : Bool) (x y : D) (P : D → Prop) : Prop := isIn x y fun b => P (.bl (if neg then !b else b))
theorem s_in {neg : Bool} : R2s G X O (rInA X.K neg) (opIn neg) .st := by
  intro B S H σ ρ ka kb v w x y Kc Q I r1 r2 h hq
  unfold opIn isIn at h
  have fx : ∀ {P : Prop}, (flatD x = true → Den G X.K S v x → P) → flatD x = true → P := fun f hx => f hx (r1.flat I fun o z => by rw [z] at hx; cases o <;> simp [flatD, Own.d] at hx)
  have fin : ∀ {b : Bool}, Kc (.bl (if neg then !b else b)) → Q (.bl (if neg then !b else b)) H := fun h => hq _ H S _ I (Sub.refl _) (Den.bl _) h
  split at h
  · split at h
    · obtain rfl := r1.str I
      obtain rfl := r2.str I
      exact .inr (.inl ⟨_, _, rfl, rfl, fin h⟩)
    · exact h.elim
  · obtain ⟨⟨hx, hs⟩, h⟩ := h
    obtain ⟨b, ws, rfl, hb, lb⟩ := r2.lst I
    refine fx (fun _ rx => .inl ⟨b, ws, rfl, .inl (SqL.of hb), flat_den rx hx, flats_den lb hs, ?_⟩) hx
    rw [memF_den lb rx hx hs]; cases neg <;> exact fin h
  · obtain ⟨⟨hx, hs⟩, h⟩ := h
    obtain ⟨b, ws, rfl, hb, lb⟩ := r2.tup I
    refine fx (fun _ rx => .inl ⟨b, ws, rfl, .inr (SqT.of hb), flat_den rx hx, flats_den lb hs, ?_⟩) hx
    rw [memF_den lb rx hx hs]; cases neg <;> exact fin h
  · obtain ⟨⟨hx, hs⟩, h⟩ := h
    have r2' := r2.flat I fun o z => by cases o <;> cases z
    cases r2' with
    | @wtp b ws ds hb hl hr =>
      have lb : DenL G X.K S ws _ := paired_of hl hr
      refine fx (fun _ rx => .inl ⟨b, ws, rfl, .inr (hb H), flat_den rx hx, flats_den lb hs, ?_⟩) hx
      rw [memF_den lb rx hx hs]; cases neg <;> exact fin h
  · rename_i ps
    obtain ⟨hf, h⟩ := h
    have rx : Den G X.K S v x := r1.flat I fun o z => by
      rw [z] at hf
      cases o <;> simp [fits, Own.d, keyOf, key1] at hf
    obtain ⟨a, o, rfl, g, ro⟩ := r2.dget I rx hf
    have e : o.isSome = (lookD ps x).isSome := by
      cases o <;> cases hl : lookD ps x <;> rw [hl] at ro <;> first | rfl | exact ro.elim
    refine .inr (.inr ⟨a, o, rfl, g, ?_⟩)
    rw [e]; exact fin h
  · exact h.elim
end
end WL

/-! WJ: slices, built-in functions and methods over data, keywords. -/
namespace WL
open PySem PySem.Spec PyProof.Rows L2
section
variable {G : Glob} {X : Cx} {O : XO} {k ka kb : Kd} {c ca cb : Bool} {n na nb : Nat} {e a b : Expr} {f fa fb : FE} {pos p p2 : Pos} {x : Str}
/-! ### slices -/
abbrev FO := EnvD → (EnvD → Option Int → Prop) → Prop
structure PDo (G : Glob) (X : Cx) (O : XO) (e : Option Expr) (c : Bool) (n : Nat) (f : FO) : Prop where
  run : ∃ t, PO X e t ∧ ∀ (B : Bs) (S : Fz) (H : Hp) (σ : L2.St) (ρ : EnvD) (Kc : EnvD → Option Int → Prop) (Q : Option Int → Hp → Prop), Eok G X.K O B S H σ ρ → S.T + n ≤ limT → f ρ Kc →
    (∀ i H' S' ρ', Eok G X.K O B S' H' σ ρ' → Sub n S S' → (c = true → ρ' = ρ) → Kc ρ' i → Q i H') → t σ H Q
def fNoO : FO := fun ρ Kc => Kc ρ none
def intOf (d : D) (P : Int → Prop) : Prop := match d with
  | .int i => P i
  | _ => False
theorem intOf_inv {d : D} {P : Int → Prop} (h : intOf d P) : ∃ i, d = .int i ∧ P i := by
  cases d <;> first | exact ⟨_, rfl, h⟩ | exact h.elim
def fSomeO (f : FE) : FO := fun ρ Kc => f ρ fun ρ' d => intOf d fun i => Kc ρ' (some i)
theorem o_none : PDo G X O none true 0 fNoO := ⟨_, po_none, fun B S H σ ρ Kc Q I hb hf hq => hq _ H S ρ I (Sub.refl _) (fun _ => rfl) hf⟩
theorem o_some (h : PDe G X O e k c n f) : PDo G X O (some e) c n (fSomeO f) := by
  obtain ⟨t, pt, q⟩ := h.run
  refine ⟨_, po_some pt, fun B S H σ ρ Kc Q I hb hf hq => ?_⟩
  refine q B S H σ ρ _ _ I (by omega) hf fun v H1 S1 ρ1 d I1 m1 c1 r1 h1 => ?_
  obtain ⟨i, rfl, h2⟩ := intOf_inv h1
  exact ⟨i, r1.int I1, hq _ H1 S1 ρ1 I1 m1 c1 h2⟩
def cutL {α : Type} (xs : List α) (lo hi : Option Int) : List α := (xs.drop (HT.sIx xs.length 0 lo)).take (HT.sIx xs.length xs.length hi - HT.sIx xs.length 0 lo)
theorem paired_drop {α β : Type} {F : α → β → Prop} {l : List α} {m : List β} (h : Paired F l m) : ∀ n, Paired F (l.drop n) (m.drop n) := by
  induction h with
  | nil => intro n; simp; exact .nil
  | cons r t ih =>
    intro n
    cases n with
    | zero => exact .cons r t
    | succ n => exact ih n
theorem paired_take {α β : Type} {F : α → β → Prop} {l : List α} {m : List β} (h : Paired F l m) : ∀ n, Paired F (l.take n) (m.take n) := by
  induction h with
  | nil => intro n; simp; exact .nil
  | cons r t ih =>
    intro n
    cases n with
    | zero => exact .nil
    | succ n => exact .cons r (ih n)
theorem cut_paired {K : PySem.W.Frag} {S : Fz} {vs : List V} {ds : List D} (r : DenL G K S vs ds) (lo hi : Option Int) : DenL G K S (cutV vs lo hi) (cutL ds lo hi) := by
  unfold cutV cutL
  rw [r.length]
  exact paired_take (paired_drop r _) _
def opSl (x : D) (lo hi : Option Int) (P : D → Prop) : Prop := match x with
  | .lst xs => P (.lst (cutL xs lo hi))
  | .tup xs => P (.tup (cutL xs lo hi))
  | .str z => z.length ≤ sizeLine ∧ P (.str (cutS z lo hi))
  | _ => False
def fSl (g : D → Option Int → Option Int → (D → Prop) → Prop) (fa : FE) (fl fh : FO) : FE := fun ρ Kc => fa ρ fun ρ1 x => fl ρ1 fun ρ2 l => fh ρ2 fun ρ3 u => g x l u (Kc ρ3)
theorem e_slT {lo hi : Option Expr} {cl ch : Bool} {nl nh : Nat} {fl fh : FO} {r : V → Option Int → Option Int → Hp → VK → Prop} {g} (hr : SlR X r)
    (hs : ∀ (B : Bs) (S : Fz) (H : Hp) (σ : L2.St) (ρ : EnvD) (v : V) (x : D) (l u : Option Int) (Kc : D → Prop) (Q : VK), Eok G X.K O B S H σ ρ → ROk G X.K B S H σ ρ v x ka → g x l u Kc → (∀ z H' S' d, Eok G X.K O B S' H' σ ρ → Sub 0 S S' → ROk G X.K B S' H' σ ρ z d k → Kc d → Q z H') → r v l u H Q)
    (ha : PDe G X O a ka ca na fa) (hl : PDo G X O lo cl nl fl) (hh : PDo G X O hi ch nh fh) (hk : okK ka (cl && ch) = true) : PDe G X O (.Subscript a (.Slice lo hi none p2) pos) k (ca && (cl && ch)) (na + (nl + nh)) (fSl g fa fl fh) := by
  obtain ⟨ta, pa, qa⟩ := ha.run
  obtain ⟨tl, pl, ql⟩ := hl.run
  obtain ⟨th, ph, qh⟩ := hh.run
  refine ⟨_, pe_slice hr pa pl ph, fun B S H σ ρ Kc Q I hb hf hq => ?_⟩
  refine qa B S H σ ρ _ _ I (by omega) hf fun v H1 S1 ρ1 x I1 m1 c1 r1 h1 => ?_
  refine ql B S1 H1 σ ρ1 _ _ I1 (by have := m1.lo; omega) h1 fun l H2 S2 ρ2 I2 m2 c2 h2 => ?_
  refine qh B S2 H2 σ ρ2 _ _ I2 (by have := m1.lo; have := m2.lo; omega) h2 fun u H3 S3 ρ3 I3 m3 c3 h3 => ?_
  have cc : (cl && ch) = true → ρ3 = ρ1 := fun z => by
    have := Bool.and_eq_true_iff.mp z
    rw [c3 this.2, c2 this.1]
  have r3 := ROk.later (S' := S3) (H' := H3) r1 (m2.trans m3) (okK_use hk cc)
  refine hs B S3 H3 σ ρ3 v x l u _ Q I3 r3 h3 fun z H4 S4 d I4 m4 r4 h4 => ?_
  exact hq z H4 S4 ρ3 d I4 ((m1.trans (m2.trans m3)).t0 m4) (fun z => by
    have := Bool.and_eq_true_iff.mp z
    rw [cc this.2, c1 this.1]) r4 h4
theorem e_sl {lo hi : Option Expr} {cl ch : Bool} {nl nh : Nat} {fl fh : FO} (ha : PDe G X O a ka ca na fa) (hl : PDo G X O lo cl nl fl) (hh : PDo G X O hi ch nh fh) (hk : okK ka (cl && ch) = true := by rfl) :
    PDe G X O (.Subscript a (.Slice lo hi none p2) pos) .st (ca && (cl && ch)) (na + (nl + nh)) (fSl opSl fa fl fh) := by
  refine e_slT (sl_list.or (sl_tupA.or sl_str)) (fun B S H σ ρ v x l u Kc Q I r h hq => ?_) ha hl hh hk
  unfold opSl at h
  split at h
  · obtain ⟨a, vs, rfl, ha, la⟩ := r.lst I
    refine .inl ⟨a, vs, rfl, SqL.of ha, fun p hp => ?_⟩
    obtain ⟨I', m⟩ := I.laysF (u := .lst (cutV vs l u)) hp
    exact hq _ _ _ _ I' m (den_lst Fz.put_same (DenL.mono m (cut_paired la l u))) h
  · rename_i xs
    obtain ⟨a, vs, rfl, ha, la⟩ := r.tup I
    have ra := r.flat I fun o z => by cases o <;> cases z
    refine .inr (.inl ⟨a, vs, rfl, SqT.of ha, fun e => ?_, fun _ p hp => ?_⟩)
    · have : cutL xs l u = xs := by
        unfold cutL
        rw [la.length] at e
        rw [e.1, e.2]; simp
      rw [this] at h
      exact hq _ _ _ _ I (Sub.refl _) ra h
    · obtain ⟨I', m⟩ := I.laysF (u := .tup (cutV vs l u)) hp
      exact hq _ _ _ _ I' m (den_tup Fz.put_same (DenL.mono m (cut_paired la l u))) h
  · obtain rfl := r.str I
    exact .inr (.inr ⟨_, rfl, h.1, hq _ _ _ _ I (Sub.refl _) (Den.str _) h.2⟩)
  · exact h.elim
/-- a list's part, one's own -/
def opSlL (x : D) (lo hi : Option Int) (P : D → Prop) : Prop := match x with
  | .lst xs => P (.lst (cutL xs lo hi))
  | _ => False
/-! ### len -/
def lenD (x : D) (P : D → Prop) : Prop := match x with
  | .lst xs => P (.int (xs.length : Nat))
  | .tup xs => P (.int (xs.length : Nat))
  | .wtp xs => P (.int (xs.length : Nat))
  | .str z => z.length ≤ sizeLine ∧ P (.int (z.length : Nat))
  | .dct ps => P (.int (ps.length : Nat))
  | .wls xs => P (.int (xs.length : Nat))
  | _ => False
abbrev rLenA (K : PySem.W.Frag) : V → Hp → VK → Prop := fun x H Q => (∃ n, LenV K x H n ∧ Q (.int (n : Nat)) H) ∨ (∃ a kvs, x = .ref a ∧ Rd H a (.dK kvs) ∧ Q (.int (kvs.length : Nat)) H) ∨ ∃ a kvs, x = .ref a ∧ Rd H a (.dT kvs) ∧ Q (.int (kvs.length : Nat)) H
theorem call_lenA : CallR X (.builtin "len") (fun xs H Q => ∃ x, xs = [x] ∧ rLenA X.K x H Q) := by
  intro pins s σ H xs us Q I r h
  obtain ⟨x, rfl, h | ⟨a, kvs, rfl, hr, q⟩ | ⟨a, kvs, rfl, hr, q⟩⟩ := h
  · obtain ⟨n, hl, q⟩ := h
    exact call_len pins s σ H _ us Q I r ⟨x, n, rfl, hl, q⟩
  · obtain ⟨u, rfl, rx⟩ := vals1 r
    obtain rfl : u = Value.ref a := rx
    exact d_len I hr fun t s' I' => ⟨.int (kvs.length : Nat), H, I', ⟨t, rfl⟩, q⟩
  · obtain ⟨u, rfl, rx⟩ := vals1 r
    obtain rfl : u = Value.ref a := rx
    obtain ⟨z, hd, ys, rel, dd⟩ := dt_rd I.hok hr
    have hl : kvs.length = ys.length := Paired.length rel
    refine call_len_dictH hd dd (by rw [← hl]; rw [sizeLine_eq] at z; omega) ?_
    rw [← hl]
    exact ⟨.int ((kvs.length : Nat) : Int), H, I.tok _, ⟨_, rfl⟩, q⟩
theorem s_len : R1s G X O (rLenA X.K) lenD .st := by
  intro B S H σ ρ ka v x Kc Q I r h hq
  unfold lenD at h
  split at h
  · obtain ⟨a, vs, rfl, ha, la⟩ := r.lst I
    refine .inl ⟨_, .inl ⟨vs, SqL.of ha, rfl⟩, ?_⟩
    rw [la.length]; exact hq _ H S _ I (Sub.refl _) (Den.int _) h
  · obtain ⟨a, vs, rfl, ha, la⟩ := r.tup I
    refine .inl ⟨_, .inr ⟨vs, SqT.of ha, rfl⟩, ?_⟩
    rw [la.length]; exact hq _ H S _ I (Sub.refl _) (Den.int _) h
  · have r' := r.flat I fun o z => by cases o <;> cases z
    cases r' with
    | @wtp a vs ds ha hl hr =>
      refine .inl ⟨_, .inr ⟨vs, ha H, rfl⟩, ?_⟩
      rw [hl]; exact hq _ H S _ I (Sub.refl _) (Den.int _) h
  · obtain rfl := r.str I
    exact .inl ⟨_, ⟨h.1, rfl⟩, hq _ H S _ I (Sub.refl _) (Den.int _) h.2⟩
  · obtain ⟨a, rfl, ⟨kvs, hr, l⟩ | ⟨kvs, hr, n, l⟩⟩ := r.dct I
    · refine .inr (.inl ⟨a, kvs, rfl, hr, ?_⟩)
      rw [l.length]; exact hq _ H S _ I (Sub.refl _) (Den.int _) h
    · refine .inr (.inr ⟨a, kvs, rfl, hr, ?_⟩)
      rw [l.length]; exact hq _ H S _ I (Sub.refl _) (Den.int _) h
  · have r' := r.flat I fun o z => by cases o <;> cases z
    obtain ⟨a, vs, rfl, e0, _, l⟩ := r'.wls_inv
    refine .inl ⟨_, .inl ⟨vs, e0 _ I.le, rfl⟩, ?_⟩
    rw [l.length]; exact hq _ H S _ I (Sub.refl _) (Den.int _) h
  · exact h.elim
theorem e_len (ha : PDe G X O e ka ca na fa) (hm : X.mg "len" = none) (hg : Gl X "len" := by rfl) (he : starEach [e] X.env = (false, eval e X.env) :: starEach [] X.env := by rfl) : PDe G X O (.Call (.Name "len" p) [e] [] pos) .st ca na (fUn lenD fa) :=
  e_callB1 call_lenA (fun v H Q h => ⟨v, rfl, h⟩) s_len ha hm hg PySem.boot_len (by decide) (by decide) he

/-! ### all, any, sum -/
def boolsL : List D → Option (List Bool)
  | [] => some []
  | .bl b :: r => (boolsL r).map (b :: ·)
  | _ :: _ => none
def intsL : List D → Option (List Int)
  | [] => some []
  | .int i :: r => (intsL r).map (i :: ·)
  | _ :: _ => none
theorem boolsL_inv {K : PySem.W.Frag} {S : Fz} : ∀ {ds : List D} {bs : List Bool} {vs : List V}, boolsL ds = some bs → DenL G K S vs ds → vs = bs.map V.bl
  | [], bs, vs, h, r => by cases r; simp [boolsL] at h; subst h; rfl
  | d :: ds, bs, vs, h, r => by
    cases r with
    | cons r1 r2 =>
      cases d <;> simp [boolsL] at h
      obtain ⟨l, e1, rfl⟩ := h
      rw [Den.bl_inv r1, boolsL_inv e1 r2]; rfl
def allD (x : D) (P : D → Prop) : Prop := lstOf x fun ds => match boolsL ds with | some bs => P (.bl (bs.all id)) | none => False
def anyD (x : D) (P : D → Prop) : Prop := lstOf x fun ds => match boolsL ds with | some bs => P (.bl (bs.any id)) | none => False
def sumD (x : D) (P : D → Prop) : Prop := lstOf x fun ds => match intsL ds with | some bs => P (.int bs.sum) | none => False
theorem s_all : R1s G X O (fun x => rAll X.K [x]) allD .st := by
  intro B S H σ ρ ka v x Kc Q I r h hq
  obtain ⟨ds, rfl, h2⟩ := lstOf_inv h
  replace h := h2; clear h2
  obtain ⟨a, vs, rfl, ha, la⟩ := r.lst I
  split at h
  · rename_i bs e
    exact ⟨a, bs, rfl, by rw [← boolsL_inv e la]; exact SqL.of ha, hq _ H S _ I (Sub.refl _) (Den.bl _) h⟩
  · exact h.elim
theorem e_all (hc : X.calm = true) (ha : PDe G X O e ka ca na fa) (hm : X.mg "all" = none) (hg : Gl X "all" := by rfl) (he : starEach [e] X.env = (false, eval e X.env) :: starEach [] X.env := by rfl) : PDe G X O (.Call (.Name "all" p) [e] [] pos) .st ca na (fUn allD fa) :=
  e_callB1 (cr_all hc) (fun v H Q h => h) s_all ha hm hg (by rfl) (by decide) (by decide) he
/-! ### int, abs, min, max, str -/
def intD (x : D) (P : D → Prop) : Prop := match x with
  | .int i => P (.int i)
  | .bl b => P (.int (if b then 1 else 0))
  | _ => False
theorem s_intc : R1s G X O (fun x H Q => (∃ i, [x] = [V.int i] ∧ Q (.int i) H) ∨ ∃ k, [x] = [V.bl k] ∧ Q (.int (if k then 1 else 0)) H) intD .st := by
  intro B S H σ ρ ka v x Kc Q I r h hq
  unfold intD at h
  split at h
  · obtain rfl := r.int I
    exact .inl ⟨_, rfl, hq _ H S _ I (Sub.refl _) (Den.int _) h⟩
  · obtain rfl := r.bl I
    exact .inr ⟨_, rfl, hq _ H S _ I (Sub.refl _) (Den.int _) h⟩
  · exact h.elim
theorem e_intc (ha : PDe G X O e ka ca na fa) (hm : X.mg "int" = none) (hg : Gl X "int" := by rfl) (he : starEach [e] X.env = (false, eval e X.env) :: starEach [] X.env := by rfl) : PDe G X O (.Call (.Name "int" p) [e] [] pos) .st ca na (fUn intD fa) :=
  e_callTy1 call_int1 (fun v H Q h => h) s_intc ha hm hg (by rfl) (by decide) (by decide) he
def c2Int (g : Int → Int → D) (ds : List D) (P : D → Prop) : Prop := int2 ds fun i j => P (g i j)
theorem s_c2 {g : Int → Int → Int} : CRs G X O (fun xs H Q => ∃ i j, xs = [V.int i, V.int j] ∧ Q (.int (g i j)) H) (c2Int fun i j => .int (g i j)) .st := by
  intro B S H σ ρ vs xs Kc Q I r h hq
  obtain ⟨i, j, rfl, h⟩ := int2_inv h
  cases r with
  | cons r1 r' =>
    cases r' with
    | cons r2 r'' =>
      cases r''
      obtain rfl := Den.int_inv r1
      obtain rfl := Den.int_inv r2
      exact ⟨i, j, rfl, hq _ H S _ I (Sub.refl _) (Den.int _) h⟩
theorem e_min2 {fa : FA} (hc : X.calm = true) (ha : PDa G X O [a, b] c n fa) (hm : X.mg "min" = none) (hg : Gl X "min" := by rfl) (he : starEach [a, b] X.env = (false, eval a X.env) :: starEach [b] X.env := by rfl) (hpl : (backTo pos (starEach [b] X.env)).any (·.1) = false := by rfl) :
    PDe G X O (.Call (.Name "min" p) [a, b] [] pos) .st c n (fCB (c2Int fun i j => .int (if j < i then j else i)) fa) := e_callB (call_min2 hc) s_c2 ha hm hg (by rfl) (by decide) (by decide) he hpl

/-! ### list, tuple -/
def listD (x : D) (P : D → Prop) : Prop := match x with
  | .lst xs => P (.lst xs)
  | .tup xs => P (.lst xs)
  | .wls xs => P (.lst xs)
  | _ => False
abbrev rListA (K : PySem.W.Frag) : V → Hp → VK → Prop := fun x H Q => ∃ p ys, [x] = [V.ref p] ∧ (SqL K H p ys ∨ SqT K H p ys) ∧ ∀ l, H l = none → Q (.ref l) (upd H l (.lst ys))
theorem s_list : R1s G X O (rListA X.K) listD .fr := by
  intro B S H σ ρ ka v x Kc Q I r h hq
  unfold listD at h
  split at h
  · obtain ⟨a, vs, rfl, ha, la⟩ := r.lst I
    refine ⟨a, vs, rfl, .inl (SqL.of ha), fun p hp => ?_⟩
    obtain ⟨I', r'⟩ := I.lays (u := .lst vs) (o := .lst _) hp ⟨_, upd_same, la⟩
    exact hq _ _ _ _ I' (Sub.refl _) r' h
  · obtain ⟨a, vs, rfl, ha, la⟩ := r.tup I
    refine ⟨a, vs, rfl, .inr (SqT.of ha), fun p hp => ?_⟩
    obtain ⟨I', r'⟩ := I.lays (u := .lst vs) (o := .lst _) hp ⟨_, upd_same, la⟩
    exact hq _ _ _ _ I' (Sub.refl _) r' h
  · have r' := r.flat I fun o z => by cases o <;> cases z
    obtain ⟨a, vs, rfl, e0, _, l⟩ := r'.wls_inv
    refine ⟨a, vs, rfl, .inl (e0 _ I.le), fun p hp => ?_⟩
    obtain ⟨I', r'⟩ := I.lays (u := .lst vs) (o := .lst _) hp ⟨_, upd_same, l⟩
    exact hq _ _ _ _ I' (Sub.refl _) r' h
  · exact h.elim
def tupleD (x : D) (P : D → Prop) : Prop := match x with
  | .lst xs => P (.tup xs)
  | .tup xs => P (.tup xs)
  | _ => False
abbrev rTupleA (K : PySem.W.Frag) : V → Hp → VK → Prop := fun x H Q => ∃ p ys, [x] = [V.ref p] ∧ ((SqL K H p ys ∧ ∀ l, H l = none → Q (.ref l) (upd H l (.tup ys))) ∨ (SqT K H p ys ∧ Q (.ref p) H))
theorem s_tuple : R1s G X O (rTupleA X.K) tupleD .st := by
  intro B S H σ ρ ka v x Kc Q I r h hq
  unfold tupleD at h
  split at h
  · obtain ⟨a, vs, rfl, ha, la⟩ := r.lst I
    refine ⟨a, vs, rfl, .inl ⟨SqL.of ha, fun p hp => ?_⟩⟩
    obtain ⟨I', m⟩ := I.laysF (u := .tup vs) hp
    exact hq _ _ _ _ I' m (den_tup Fz.put_same (DenL.mono m la)) h
  · obtain ⟨a, vs, rfl, ha, la⟩ := r.tup I
    have ra := r.flat I fun o z => by cases o <;> cases z
    exact ⟨a, vs, rfl, .inr ⟨SqT.of ha, hq _ H S _ I (Sub.refl _) ra h⟩⟩
  · exact h.elim
end
end WL

/-! WK: containers of one's own changed; join, isinstance, repr; keywords. -/
namespace WL
open PySem PySem.Spec PyProof.Rows L2
section
variable {G : Glob} {K : PySem.W.Frag} {O : XO} {B : Bs} {S : Fz} {H : Hp} {σ : L2.St} {ρ : EnvD}
/-- the container of slot i is changed -/
theorem Eok.chgSlot {i : Nat} {a : Addr} {o o' : Own} {u : HO} (I : Eok G K O B S H σ ρ) (h : Owns σ ρ i a o) (w : OwnAt G K S (upd H a u) a o') (hse : ∀ c fs, o' = .ins c fs → ∃ c0 fs0, o = .ins c0 fs0 := by intro c fs e; first | exact ⟨_, _, rfl⟩ | cases e) : Eok G K O B S (upd H a u) σ (ρ.set i (some (.own o'))) := by
  obtain ⟨h1, n⟩ := I.take h
  obtain ⟨t, h2⟩ := h1.chg I.toSta w
  have I1 : Eok G K O B S (upd H a u) σ (ρ.set i none) := I.forget.step t rfl (Sub.refl _) n (fun _ _ => rfl) (fun b hb => upd_ne hb)
  have en : ∀ j, i ≠ j → (ρ.set i none)[j]? = (ρ.set i (some (Slot.own o')))[j]? := fun j z => by rw [get_set, get_set, if_neg z, if_neg z]
  have ei : ∀ s, (ρ.set i (some (Slot.own o')))[i]? = some (some s) → s = .own o' := fun s e => by
    rw [get_set, if_pos rfl] at e
    split at e <;> simp at e
    exact e.symm
  have own : ∀ j b x, Owns σ (ρ.set i (some (.own o'))) j b x → (j = i ∧ b = a ∧ x = o') ∨ (i ≠ j ∧ Owns σ (ρ.set i none) j b x) := fun j b x q => by
    by_cases z : i = j
    · subst z
      have e1 := ei _ q.1
      have e2 := q.2
      rw [h.2] at e2
      cases e1; cases e2
      exact .inl ⟨rfl, rfl, rfl⟩
    · exact .inr ⟨z, by rw [en j z]; exact q.1, q.2⟩
  refine ⟨t, I1.tz, I1.xr, fun j d q => ?_, fun j x q => ?_, fun j l b x y q1 q2 => ?_, I1.tm, fun j l b x y q1 q2 => ?_, I.tt, by rw [List.length_set]; exact I.len, fun j c fs q => by
    by_cases z : i = j
    · subst z
      have e := ei _ q
      obtain ⟨c0, fs0, e0⟩ := hse c fs (by cases e; rfl)
      exact I.sf i c0 fs0 (by rw [h.1, e0])
    · exact I.sf j c fs (by rw [get_set, if_neg z] at q; exact q), I.kp⟩
  · by_cases z : i = j
    · subst z; cases ei _ q
    · exact I1.im j d (by rw [en j z]; exact q)
  · by_cases z : i = j
    · subst z; cases ei _ q; exact ⟨a, h.2, h2⟩
    · exact I1.ow j x (by rw [en j z]; exact q)
  · rcases own _ _ _ q1 with ⟨rfl, rfl, rfl⟩ | ⟨z, q1⟩ <;> rcases own _ _ _ q2 with ⟨e1, e2, e3⟩ | ⟨z', q2⟩
    · exact e1.symm
    · exact (n.no _ _ q2).elim
    · subst e2; exact (n.no _ _ q1).elim
    · exact I1.ap _ _ _ _ _ q1 q2
  · rcases own _ _ _ q1 with ⟨rfl, rfl, rfl⟩ | ⟨z, q1⟩
    · exact n.nt _ _ q2
    · exact I1.ta _ _ _ _ _ q1 q2
end
section
variable {G : Glob} {X : Cx} {O : XO} {rk : Bool} {k ka kb : Kd} {c ca cb : Bool} {n na nb : Nat} {e o : Expr} {es : List Expr} {f fa fb : FE} {fs : FA} {pos p p2 apos : Pos} {x : Str}
def ownL (ρ : EnvD) (i : Nat) (P : List D → Prop) : Prop := ∃ xs, ρ[i]? = some (some (.own (.lst xs))) ∧ P xs
/-- a method of a builtin type, its receiver a list of slot i that it changes -/
theorem e_ownM {name : Str} {id : String} {r : V → List V → Hp → VK → Prop} {g : List D → List D → (List D → D → Prop) → Prop} (i : Nat) (slot : PySem.Slot "list" name id) (hty : typeOf (.builtin id) = pure (.type "method_descriptor")) (hm : MtR X id r)
    (hs : ∀ (S : Fz) (H : Hp) (a : Addr) (vs us : List V) (xs ys : List D) (Kc : List D → D → Prop) (Q : VK), H a = some (.lst vs) → DenL G X.K S vs xs → DenL G X.K S us ys → g xs ys Kc →
      (∀ z d ws zs, Den G X.K S z d → DenL G X.K S ws zs → Kc zs d → Q z (upd H a (.lst ws))) → r (.ref a) us H Q)
    (ha : PDa G X O (e :: es) c n fs) (hN : X.N[i]? = some x := by rfl) (hv : Vis X.env.scope x := by first | exact Or.inl rfl | exact Or.inr (Or.inl rfl) | exact Or.inr (Or.inr rfl))
    (hbase : attributeBase (.Name x p) name X.env (eval (.Name x p) X.env) = eval (.Name x p) X.env := by rfl)
    (hfew : ((backTo pos (starEach (e :: es) X.env)).all (fun x => !x.1) && (backToKw pos (keywordEach [] X.env)).all (fun x => x.1.isSome)
      && decide ((e :: es).length + ([] : List Keyword).length + (if ([] : List Keyword).isEmpty then 0 else 1) < 30)) = true := by rfl)
    (hline : (apos.endLine == pos.line) = true := by rfl) (hst : starEach (e :: es) X.env = (false, eval e X.env) :: starEach es X.env := by rfl) (hplain : (backTo pos (starEach es X.env)).any (·.1) = false := by rfl)
    (hd : (x == ("__debug__" : Str)) = false := by decide) (hcd : (x == ("__classdict__" : Str)) = false := by decide) :
    PDe G X O (.Call (.Attribute (.Name x p) name apos) (e :: es) [] pos) .st false n (fun ρ Kc => ownL ρ i fun _ => fs ρ fun ρ1 ys => ownL ρ1 i fun xs => g xs ys fun zs d => Kc (ρ1.set i (some (.own (.lst zs)))) d) := by
  obtain ⟨t, pa, q⟩ := ha.run
  refine ⟨_, pe_bm PySem.F.plainAttrs_list slot hty hm (pe_var hN hv hd hcd) pa hbase hfew hline hst hplain, fun B S H σ ρ Kc Q I hb hf hq => ?_⟩
  obtain ⟨xs0, e0, hf⟩ := hf
  obtain ⟨a, ea, w0⟩ := I.ow i _ e0
  obtain ⟨vs0, hv0, _⟩ := w0.at_
  refine ⟨.ref a, ea, .inl ⟨rfl, vs0, SqL.of hv0⟩, ?_⟩
  refine q B S H σ ρ _ _ I (by omega) hf fun us H1 S1 ρ1 ys I1 m1 c1 r1 h1 => ?_
  obtain ⟨xs, e1, h1⟩ := h1
  obtain ⟨a', ea', w1⟩ := I1.ow i _ e1
  rw [ea] at ea'; cases ea'
  obtain ⟨vs, hv1, l1⟩ := w1.at_
  refine hs S1 H1 a vs us xs ys _ Q hv1 l1 r1 h1 fun z d ws zs hz lz hk => ?_
  have I2 := I1.chgSlot (i := i) (a := a) (o := .lst xs) (o' := .lst zs) (u := .lst ws) ⟨e1, ea⟩ ⟨ws, upd_same, lz⟩
  exact hq z _ S1 _ d I2 m1 (fun z => nomatch z) hz hk
def gAppend (xs ys : List D) (P : List D → D → Prop) : Prop := match ys with
  | [y] => xs.length < sizeLine ∧ P (xs ++ [y]) .non
  | _ => False
theorem s_append {S : Fz} {H : Hp} {a : Addr} {vs us : List V} {xs ys : List D} {Kc : List D → D → Prop} {Q : VK} (hv : H a = some (.lst vs)) (l : DenL G X.K S vs xs) (r : DenL G X.K S us ys) (h : gAppend xs ys Kc)
    (hq : ∀ z d ws zs, Den G X.K S z d → DenL G X.K S ws zs → Kc zs d → Q z (upd H a (.lst ws))) : rAppend (.ref a) us H Q := by
  unfold gAppend at h
  split at h
  · cases r with
    | cons r1 r' =>
      cases r'
      exact ⟨a, vs, _, rfl, rfl, hv, by rw [l.length]; exact h.1, hq _ _ _ _ .non (l.snoc r1) h.2⟩
  · exact h.elim
theorem paired_erase {α β : Type} {F : α → β → Prop} {l : List α} {m : List β} (h : Paired F l m) : ∀ n, Paired F (l.eraseIdx n) (m.eraseIdx n) := by
  induction h with
  | nil => intro n; exact .nil
  | cons r t ih =>
    intro n
    cases n with
    | zero => exact t
    | succ n => exact .cons r (ih n)
/-- xs.pop(i), i from 0 on -/
def gPopAt (xs ys : List D) (P : List D → D → Prop) : Prop := match ys with
  | [.int i] => (0 ≤ i ∧ i < 2 ^ 63) ∧ match xs[i.toNat]? with
    | some y => P (xs.eraseIdx i.toNat) y
    | none => False
  | _ => False
theorem s_popAt {S : Fz} {H : Hp} {a : Addr} {vs us : List V} {xs ys : List D} {Kc : List D → D → Prop} {Q : VK} (hv : H a = some (.lst vs)) (l : DenL G X.K S vs xs) (r : DenL G X.K S us ys) (h : gPopAt xs ys Kc)
    (hq : ∀ z d ws zs, Den G X.K S z d → DenL G X.K S ws zs → Kc zs d → Q z (upd H a (.lst ws))) : rPopAt (.ref a) us H Q := by
  unfold gPopAt at h
  split at h
  · obtain ⟨⟨h0, h1⟩, h⟩ := h
    cases r with
    | cons r1 r' =>
      cases r'
      obtain rfl := Den.int_inv r1
      split at h
      · rename_i y e
        have hi := (List.getElem?_eq_some_iff.mp e).1
        obtain ⟨v, d, e1, e2, q⟩ := paired_some l hi
        rw [e] at e2; cases e2
        refine ⟨a, vs, _, _, v, rfl, rfl, hv, by omega, h1, ?_, e1, hq _ _ _ _ q (paired_erase l _) h⟩
        rw [l.length]
        exact seqIndex_of h0 (by omega)
      · exact h.elim
  · exact h.elim
theorem e_append (i : Nat) (ha : PDa G X O [e] c n fs) (hN : X.N[i]? = some x := by rfl) (hv : Vis X.env.scope x := by first | exact Or.inl rfl | exact Or.inr (Or.inl rfl) | exact Or.inr (Or.inr rfl))
    (hbase : attributeBase (.Name x p) "append" X.env (eval (.Name x p) X.env) = eval (.Name x p) X.env := by rfl)
    (hfew : ((backTo pos (starEach [e] X.env)).all (fun x => !x.1) && (backToKw pos (keywordEach [] X.env)).all (fun x => x.1.isSome)
      && decide ([e].length + ([] : List Keyword).length + (if ([] : List Keyword).isEmpty then 0 else 1) < 30)) = true := by rfl)
    (hline : (apos.endLine == pos.line) = true := by rfl) (hst : starEach [e] X.env = (false, eval e X.env) :: starEach [] X.env := by rfl) (hplain : (backTo pos (starEach [] X.env)).any (·.1) = false := by rfl)
    (hd : (x == ("__debug__" : Str)) = false := by decide) (hcd : (x == ("__classdict__" : Str)) = false := by decide) :
    PDe G X O (.Call (.Attribute (.Name x p) "append" apos) [e] [] pos) .st false n (fun ρ Kc => ownL ρ i fun _ => fs ρ fun ρ1 ys => ownL ρ1 i fun xs => gAppend xs ys fun zs d => Kc (ρ1.set i (some (.own (.lst zs)))) d) :=
  e_ownM i PySem.F.slot_list_append PySem.F.type_list_append mt_append (fun S H a vs us xs ys Kc Q hv l r h hq => s_append hv l r h hq) ha hN hv hbase hfew hline hst hplain hd hcd
theorem e_popAt (i : Nat) (ha : PDa G X O [e] c n fs) (hN : X.N[i]? = some x := by rfl) (hv : Vis X.env.scope x := by first | exact Or.inl rfl | exact Or.inr (Or.inl rfl) | exact Or.inr (Or.inr rfl))
    (hbase : attributeBase (.Name x p) "pop" X.env (eval (.Name x p) X.env) = eval (.Name x p) X.env := by rfl)
    (hfew : ((backTo pos (starEach [e] X.env)).all (fun x => !x.1) && (backToKw pos (keywordEach [] X.env)).all (fun x => x.1.isSome)
      && decide ([e].length + ([] : List Keyword).length + (if ([] : List Keyword).isEmpty then 0 else 1) < 30)) = true := by rfl)
    (hline : (apos.endLine == pos.line) = true := by rfl) (hst : starEach [e] X.env = (false, eval e X.env) :: starEach [] X.env := by rfl) (hplain : (backTo pos (starEach [] X.env)).any (·.1) = false := by rfl)
    (hd : (x == ("__debug__" : Str)) = false := by decide) (hcd : (x == ("__classdict__" : Str)) = false := by decide) :
    PDe G X O (.Call (.Attribute (.Name x p) "pop" apos) [e] [] pos) .st false n (fun ρ Kc => ownL ρ i fun _ => fs ρ fun ρ1 ys => ownL ρ1 i fun xs => gPopAt xs ys fun zs d => Kc (ρ1.set i (some (.own (.lst zs)))) d) :=
  e_ownM i PySem.F.slot_list_pop PySem.F.type_list_pop mt_popAt (fun S H a vs us xs ys Kc Q hv l r h hq => s_popAt hv l r h hq) ha hN hv hbase hfew hline hst hplain hd hcd
/-! ### join -/
def strsL : List D → Option (List Str)
  | [] => some []
  | .str i :: r => (strsL r).map (i :: ·)
  | _ :: _ => none
theorem strsL_inv {K : PySem.W.Frag} {S : Fz} : ∀ {ds : List D} {bs : List Str} {vs : List V}, strsL ds = some bs → DenL G K S vs ds → vs = bs.map V.str
  | [], bs, vs, h, r => by cases r; simp [strsL] at h; subst h; rfl
  | d :: ds, bs, vs, h, r => by
    cases r with
    | cons r1 r2 =>
      cases d <;> simp [strsL] at h
      obtain ⟨l, e1, rfl⟩ := h
      rw [Den.str_inv r1, strsL_inv e1 r2]; rfl
def seqOf (d : D) (P : List D → Prop) : Prop := match d with
  | .lst ds => P ds
  | .tup ds => P ds
  | _ => False
def opJoin (a : Str) (y : D) (P : D → Prop) : Prop := seqOf y fun ds => match strsL ds with
  | some ys => (ys.map (·.length)).sum + ys.length * a.length ≤ 16777216 ∧ P (.str (Txt.join a ys))
  | none => False
def strOf (d : D) (P : Str → Prop) : Prop := match d with
  | .str a => P a
  | _ => False
theorem strOf_inv {d : D} {P : Str → Prop} (h : strOf d P) : ∃ i, d = .str i ∧ P i := by
  cases d <;> first | exact ⟨_, rfl, h⟩ | exact h.elim
def fJoin (fa fb : FE) : FE := fun ρ Kc => fa ρ fun ρ1 x => strOf x fun a => fb ρ1 fun ρ2 y => opJoin a y (Kc ρ2)
theorem e_join (ho : PDe G X O o ka ca na fa) (he : PDe G X O e kb cb nb fb) (hs : starEach [e] X.env = [(false, eval e X.env)] := by rfl) (hbase : attributeBase o "join" X.env (eval o X.env) = eval o X.env := by rfl) (hline : (apos.endLine == pos.line) = true := by rfl) :
    PDe G X O (.Call (.Attribute o "join" apos) [e] [] pos) .st (ca && cb) (na + nb) (fJoin fa fb) := by
  obtain ⟨ta, pa, qa⟩ := ho.run
  obtain ⟨tb, pb, qb⟩ := he.run
  refine ⟨_, pe_join pa pb hs hbase hline, fun B S H σ ρ Kc Q I hb hf hq => ?_⟩
  refine qa B S H σ ρ _ _ I (by omega) hf fun v H1 S1 ρ1 x I1 m1 c1 r1 h1 => ?_
  obtain ⟨z, rfl, h2⟩ := strOf_inv h1
  obtain rfl := r1.str I1
  refine ⟨⟨z, rfl⟩, qb B S1 H1 σ ρ1 _ _ I1 (by have := m1.lo; omega) h2 fun w H2 S2 ρ2 y I2 m2 c2 r2 h3 => ?_⟩
  have fin : ∀ {ds : List D} {a : Addr} {vs : List V}, w = .ref a → (SqL X.K H2 a vs ∨ SqT X.K H2 a vs) → DenL G X.K S2 vs ds → (match strsL ds with
    | some ys => (ys.map (·.length)).sum + ys.length * z.length ≤ 16777216 ∧ Kc ρ2 (.str (Txt.join z ys))
    | none => False) → ∃ a p, ∃ ys : List Str, V.str z = .str a ∧ [w] = [.ref p] ∧ (SqL X.K H2 p (ys.map V.str) ∨ SqT X.K H2 p (ys.map V.str)) ∧ (ys.map (·.length)).sum + ys.length * a.length ≤ 16777216 ∧ Q (.str (Txt.join a ys)) H2 := fun {ds a vs} ew hsq hl h => by
    split at h
    · rename_i ys e
      have ev := strsL_inv e hl
      subst ev
      refine ⟨z, a, ys, rfl, by rw [ew], hsq, h.1, hq _ H2 S2 ρ2 _ I2 (m1.trans m2) (fun z => ?_) (Den.str _) h.2⟩
      have := Bool.and_eq_true_iff.mp z
      rw [c2 this.2, c1 this.1]
    · exact h.elim
  unfold opJoin seqOf at h3
  split at h3
  · obtain ⟨a, vs, e1, e2, e3⟩ := r2.lst I2
    exact fin e1 (.inl (SqL.of e2)) e3 h3
  · obtain ⟨a, vs, e1, e2, e3⟩ := r2.tup I2
    exact fin e1 (.inr (SqT.of e2)) e3 h3
  · exact h3.elim

/-! ### isinstance -/
/-- the type of a datum -/
def tyN : D → Option String
  | .non => some "NoneType"
  | .bl _ => some "bool"
  | .int _ => some "int"
  | .str _ => some "str"
  | .tup _ => some "tuple"
  | .lst _ => some "list"
  | .dct _ => some "dict"
  | _ => none
def isiT (t T : String) : Bool := t == T || (t == "bool" && T == "int")
abbrev rIsiG (K : PySem.W.Frag) (x c : V) (H : Hp) (Q : VK) : Prop := ∃ (t u : Value) (b : Bool), ClsV c u ∧ (TyX K H x t ∨ ∃ a o kvs, x = .ref a ∧ H a = some (.frz o (.dT kvs)) ∧ t = .type "dict") ∧ PySem.W.kitOne K t u = some b ∧ Q (.bl b) H
theorem kit_any {pins : List (Addr × Obj)} {σ : L2.St} {H : Hp} {s : Shared} {x : V} {u t : Value} (I : Inv X pins σ H s) (rx : RelV x u) (ty : TyX X.K H x t ∨ ∃ a o kvs, x = .ref a ∧ H a = some (.frz o (.dT kvs)) ∧ t = .type "dict") :
    ∃ P : Heap → Prop, PySem.W.KitX X.K u t P ∧ P s.heap ∧ u ≠ .builtin "__main__.__loader__#opaque" := by
  rcases ty with ty | ⟨a, o, kvs, rfl, e, rfl⟩
  · exact kit_of I rx ty
  · obtain rfl : u = Value.ref a := rx
    obtain ⟨_, _, xs, _, _, ob, es, ep, h1, h2, _⟩ := (show ObjOk X.prog X.w H s.heap a (.frz o (.dT kvs)) from I.hok a _ e)
    exact ⟨_, PySem.W.kitx_dict, ⟨ob, h1, h2.1⟩, fun z => nomatch z⟩
theorem call_isiG : CallR X (.builtin "isinstance") (fun xs H Q => ∃ x c, xs = [x, c] ∧ rIsiG X.K x c H Q) := by
  intro pins s σ H xs us Q I r h
  obtain ⟨x, c, rfl, t, u, b, k, ty, e, q⟩ := h
  obtain ⟨u1, u2, rfl, r1, r2⟩ := vals2 r
  obtain rfl := k.eq r2
  obtain ⟨P, Z, p, hx⟩ := kit_any I r1 ty
  exact PySem.W.kia_one Z I.kIn p e hx fun tk => ⟨.bl b, H, I.tok tk, rfl, q⟩
theorem tyN_ok {B : Bs} {S : Fz} {H : Hp} {σ : L2.St} {ρ : EnvD} {v : V} {d : D} {T : String} (I : Eok G X.K O B S H σ ρ) (r : ROk G X.K B S H σ ρ v d k) (h : tyN d = some T) : TyX X.K H v (.type T) ∨ ∃ a o kvs, v = .ref a ∧ H a = some (.frz o (.dT kvs)) ∧ Value.type T = .type "dict" := by
  cases d <;> simp [tyN] at h <;> subst h
  · obtain rfl := r.non I; exact .inl (.base .non)
  · obtain rfl := r.bl I; exact .inl (.base (.bl _))
  · obtain rfl := r.int I; exact .inl (.base (.int _))
  · obtain rfl := r.str I; exact .inl (.base (.str _))
  · obtain ⟨a, vs, rfl, e, _⟩ := r.tup I; exact .inl (.base (.tup e))
  · obtain ⟨a, vs, rfl, e, _⟩ := r.lst I; exact .inl (.base (.lst e))
  · obtain ⟨a, rfl, ⟨kvs, (e | ⟨o, e⟩), _⟩ | ⟨kvs, (e | ⟨o, e⟩), _⟩⟩ := r.dct I
    · exact .inl (.base (.dK e))
    · exact .inl (.fDict e)
    · exact .inl (.base (.dT e))
    · exact .inr ⟨a, o, kvs, rfl, e, rfl⟩
theorem tyN_mem {d : D} {T : String} (h : tyN d = some T) : T ∈ tyNs := by
  cases d <;> simp [tyN] at h <;> subst h <;> simp [tyNs]
def kitC (T : String) : Bool := tyNs.all fun t => decide (kitB t T = some (isiT t T))
theorem kitC_at {K : PySem.W.Frag} {T t : String} (h : kitC T = true) (ht : t ∈ tyNs) : PySem.W.kitOne K (.type t) (.type T) = some (isiT t T) := kit_ty (of_decide_eq_true (List.all_eq_true.mp h t ht))
def opIsi (T : String) (x : D) (P : D → Prop) : Prop := match tyN x with
  | some t => P (.bl (isiT t T))
  | none => False
theorem e_isi {T : String} {y : Str} (hT : kitC T = true) (ha : PDe G X O e ka ca na fa) (hm : X.mg "isinstance" = none) (hmT : X.mg y = none) (hb : bootBuiltins y = some (.type T)) (hg : Gl X "isinstance" := by rfl) (hgT : Gl X y := by rfl)
    (he : starEach [e, .Name y p2] X.env = (false, eval e X.env) :: starEach [.Name y p2] X.env := by rfl) (he2 : starEach [.Name y p2] X.env = (false, eval (.Name y p2) X.env) :: starEach [] X.env := by rfl) (hpl : (backTo pos (starEach [.Name y p2] X.env)).any (·.1) = false := by rfl)
    (hn : y ≠ "__name__" := by decide) (hdb : (y == ("__debug__" : Str)) = false := by decide) : PDe G X O (.Call (.Name "isinstance" p) [e, .Name y p2] [] pos) .st ca na (fUn (opIsi T) fa) := by
  obtain ⟨ta, pa, qa⟩ := ha.run
  refine ⟨_, pe_callB call_isiG hg hm (by rfl) (pa_cons pa (pa_cons (pe_bltn (v := .ty T) hgT hmT hb rfl hn hdb) pa_nil he2) he) (by decide) (by decide) he hpl, fun B S H σ ρ Kc Q I hb hf hq => ?_⟩
  refine qa B S H σ ρ _ _ I (by omega) hf fun v H1 S1 ρ1 d I1 m1 c1 r1 h1 => ?_
  unfold opIsi at h1
  split at h1
  · rename_i t et
    exact ⟨v, .ty T, rfl, .type t, .type T, _, .ty T, tyN_ok I1 r1 et, kitC_at hT (tyN_mem et), hq _ H1 S1 ρ1 _ I1 m1 c1 (Den.bl _) h1⟩
  · exact h1.elim
/-- isinstance(x, (T, U)) -/
def tyW : D → Option String
  | .wtp _ => some "tuple"
  | .non => some "NoneType"
  | .bl _ => some "bool"
  | .int _ => some "int"
  | .str _ => some "str"
  | .tup _ => some "tuple"
  | .lst _ => some "list"
  | .dct _ => some "dict"
  | _ => none
theorem tyW_mem {d : D} {T : String} (h : tyW d = some T) : T ∈ tyNs := by
  cases d <;> simp [tyW] at h <;> subst h <;> simp [tyNs]
theorem tyW_ok {B : Bs} {S : Fz} {H : Hp} {σ : L2.St} {ρ : EnvD} {v : V} {d : D} {T : String} (I : Eok G X.K O B S H σ ρ) (r : ROk G X.K B S H σ ρ v d k) (h : tyW d = some T) : TyX X.K H v (.type T) ∨ ∃ a o kvs, v = .ref a ∧ H a = some (.frz o (.dT kvs)) ∧ Value.type T = .type "dict" := by
  by_cases hw : ∃ xs, d = .wtp xs
  · obtain ⟨xs, rfl⟩ := hw
    simp [tyW] at h
    subst h
    rcases r.own I with r | ⟨a, o, e1, e2, w⟩
    · cases r with
      | wtp e2 l r =>
        rcases e2 H with (e | ⟨o, e⟩) | ⟨o, its, n, e, c, _⟩
        · exact .inl (.base (.tup e))
        · exact .inl (.fTuple e)
        · exact .inl (.kTuple e c)
    · cases o <;> cases e2
  · refine tyN_ok I r ?_
    cases d <;> first | exact h | exact absurd ⟨_, rfl⟩ hw
def opIsi2 (T U : String) (x : D) (P : D → Prop) : Prop := match tyW x with
  | some t => P (.bl (isiT t T || isiT t U))
  | none => False
abbrev rIsiG2 (K : PySem.W.Frag) (T U : String) (x : V) (H : Hp) (Q : VK) : Prop := ∃ t : String, t ∈ tyNs ∧ (TyX K H x (.type t) ∨ ∃ a o kvs, x = .ref a ∧ H a = some (.frz o (.dT kvs)) ∧ Value.type t = .type "dict") ∧ Q (.bl (isiT t T || isiT t U)) H
theorem call_isiG2 {T U : String} (hT : kitC T = true) (hU : kitC U = true) : CallR X (.builtin "isinstance") (fun xs H Q => ∃ x tp, xs = [x, .ref tp] ∧ H tp = some (.tup [.ty T, .ty U]) ∧ rIsiG2 X.K T U x H Q) := by
  intro pins s σ H xs us Q I r h
  obtain ⟨x, tp, rfl, htp, t, ht, ty, q⟩ := h
  obtain ⟨u1, u2, rfl, r1, r2⟩ := vals2 r
  obtain rfl : u2 = Value.ref tp := r2
  obtain ⟨P, Z, p, hx⟩ := kit_any I r1 ty
  obtain ⟨_, its, rv, o, h1, h2, n, h3⟩ := (show ObjOk X.prog X.w H s.heap tp (.tup [.ty T, .ty U]) from I.hok tp _ htp)
  have e3 := ClsV.all (.cons (.ty T) (.cons (.ty U) .nil)) rv
  subst e3
  obtain ⟨oc, od, dt, sl⟩ := o
  simp only at h2 h3
  subst h2 h3
  refine PySem.W.kia_tup Z I.kIn p h1 (b := isiT t T || isiT t U) (kitAny_cons (kitC_at hT ht) (fun hf => ?_) fun ht => by rw [ht]; rfl) hx fun tk => ⟨.bl _, H, I.tok tk, rfl, q⟩
  rw [hf]
  exact kitAny_cons (kitC_at hU ht) (fun hf => by rw [hf]; rfl) fun ht => by rw [ht]; rfl
theorem ROk.laysT {B : Bs} {S : Fz} {H : Hp} {σ : L2.St} {ρ : EnvD} {v : V} {d : D} {a : Addr} {u : HO} (I : Eok G X.K O B S H σ ρ) (r : ROk G X.K B S H σ ρ v d k) (h : H a = none) (m : Sub 0 S (S.put a u)) : ROk G X.K B (S.put a u) (upd H a u) σ ρ v d k := by
  cases k with
  | st => exact Den.mono m r
  | bo i => exact r
  | fr =>
    obtain ⟨b, o, e1, e2, w, n⟩ := r
    have hb : b ≠ a := fun z => w.some (by rw [z]; exact h)
    exact ⟨b, o, e1, e2, w.keep m (Fz.put_ne hb) (upd_ne hb), n⟩
theorem e_isi2 {T U : String} {y z : Str} {p3 p4 : Pos} {x1} (hT : kitC T = true) (hU : kitC U = true) (ha : PDe G X O e ka ca na fa) (hm : X.mg "isinstance" = none) (hmT : X.mg y = none) (hbT : bootBuiltins y = some (.type T)) (hmU : X.mg z = none) (hbU : bootBuiltins z = some (.type U)) (hg : Gl X "isinstance" := by rfl) (hgT : Gl X y := by rfl) (hgU : Gl X z := by rfl)
    (he : starEach [e, .Tuple [.Name y p2, .Name z p3] x1 p4] X.env = (false, eval e X.env) :: starEach [.Tuple [.Name y p2, .Name z p3] x1 p4] X.env := by rfl) (he2 : starEach [.Tuple [.Name y p2, .Name z p3] x1 p4] X.env = (false, eval (.Tuple [.Name y p2, .Name z p3] x1 p4) X.env) :: starEach [] X.env := by rfl) (hpl : (backTo pos (starEach [.Tuple [.Name y p2, .Name z p3] x1 p4] X.env)).any (·.1) = false := by rfl)
    (hy : starEach [.Name y p2, .Name z p3] X.env = (false, eval (.Name y p2) X.env) :: starEach [.Name z p3] X.env := by rfl) (hz : starEach [.Name z p3] X.env = (false, eval (.Name z p3) X.env) :: starEach [] X.env := by rfl)
    (hn : y ≠ "__name__" := by decide) (hdb : (y == ("__debug__" : Str)) = false := by decide) (hn2 : z ≠ "__name__" := by decide) (hdb2 : (z == ("__debug__" : Str)) = false := by decide) : PDe G X O (.Call (.Name "isinstance" p) [e, .Tuple [.Name y p2, .Name z p3] x1 p4] [] pos) .st ca na (fUn (opIsi2 T U) fa) := by
  obtain ⟨ta, pa, qa⟩ := ha.run
  refine ⟨_, pe_callB (call_isiG2 hT hU) hg hm (by rfl) (pa_cons pa (pa_cons (pe_tup (pa_cons (pe_bltn (v := .ty T) hgT hmT hbT rfl hn hdb) (pa_cons (pe_bltn (v := .ty U) hgU hmU hbU rfl hn2 hdb2) pa_nil hz) hy)) pa_nil he2) he) (by decide) (by decide) he hpl, fun B S H σ ρ Kc Q I hb hf hq => ?_⟩
  refine qa B S H σ ρ _ _ I (by omega) hf fun v H1 S1 ρ1 d I1 m1 c1 r1 h1 => ?_
  unfold opIsi2 at h1
  split at h1
  · rename_i t et
    refine ⟨by show (2 : Nat) ≤ sizeLine; decide, fun tp htp => ?_⟩
    obtain ⟨I2, m2⟩ := I1.laysF (u := .tup [.ty T, .ty U]) htp
    exact ⟨v, tp, rfl, upd_same, t, tyW_mem et, tyW_ok I2 (ROk.laysT I1 r1 htp m2) et, hq _ _ _ ρ1 _ I2 (m1.trans m2) c1 (Den.bl _) h1⟩
  · exact h1.elim
end
end WL

/-! WM: repr over data. -/
namespace WL
open PySem PySem.Spec PyProof.Rows L2
mutual
/-- a value read as data, no dict of it the table of modules -/
inductive RdN (h : Heap) : Value → PyData → Prop
  | non : RdN h .none .none
  | bl (b) : RdN h (.bool b) (.bool b)
  | int (i t) : RdN h (.int i t) (.int i)
  | str (x t) : RdN h (.str x t) (.str x)
  | lst {a o vs n xs} : h.get? a = some o → o.cls = .type "list" → o.data = .seq vs n → RdNs h vs.toList xs → RdN h (.ref a) (.list xs)
  | tup {a o vs n xs} : h.get? a = some o → o.cls = .type "tuple" → o.data = .seq vs n → RdNs h vs.toList xs → RdN h (.ref a) (.tuple xs)
  | dct {a o es n kvs} : (a == sysModules) = false → h.get? a = some o → o.cls = .type "dict" → o.data = .dict es n → RdNs h (es.toList.map (·.key)) (kvs.map (·.1)) → RdNs h (es.toList.map (·.val)) (kvs.map (·.2)) → RdN h (.ref a) (.dict kvs)
inductive RdNs (h : Heap) : List Value → List PyData → Prop
  | nil : RdNs h [] []
  | cons {v vs d ds} : RdN h v d → RdNs h vs ds → RdNs h (v :: vs) (d :: ds)
end
mutual
theorem RdN.reads {h : Heap} : ∀ {v : Value} {d : PyData}, RdN h v d → ∃ as, Reads h v d as
  | _, _, .non => ⟨_, .none⟩
  | _, _, .bl b => ⟨_, .bool b⟩
  | _, _, .int i t => ⟨_, .int i t⟩
  | _, _, .str x t => ⟨_, .str x t⟩
  | _, _, .lst h1 h2 h3 h4 => let ⟨_, r⟩ := RdNs.reads h4; ⟨_, .list h1 h2 h3 r⟩
  | _, _, .tup h1 h2 h3 h4 => let ⟨_, r⟩ := RdNs.reads h4; ⟨_, .tuple h1 h2 h3 r⟩
  | _, _, .dct _ h1 h2 h3 h4 h5 => let ⟨_, r⟩ := RdNs.reads h4; let ⟨_, r'⟩ := RdNs.reads h5; ⟨_, .dict h1 h2 h3 r r'⟩
theorem RdNs.reads {h : Heap} : ∀ {v : List Value} {d : List PyData}, RdNs h v d → ∃ as, ReadsAll h v d as
  | _, _, .nil => ⟨_, .nil⟩
  | _, _, .cons h1 h2 => let ⟨_, r⟩ := RdN.reads h1; let ⟨_, r'⟩ := RdNs.reads h2; ⟨_, .cons r r'⟩
end
theorem showKv {kvs : List (PyData × PyData)} {h0 : Heap} {prog : Program} {w : World} {es : List DictEntry} {b1 b2 : List Addr}
    (k1 : ReprAllK prog w b1 h0 (PyData.depthAll (kvs.map (·.1))) (es.map (·.key)) (PyData.shownAll (kvs.map (·.1)))) (k2 : ReprAllK prog w b2 h0 (PyData.depthAll (kvs.map (·.2))) (es.map (·.val)) (PyData.shownAll (kvs.map (·.2)))) :
    ReprEntriesK prog w (b1 ++ b2) h0 (PyData.depthKv kvs) es (PyData.shownKv kvs) := by
  rw [PyData.shownKv_eq]
  exact ReprEntriesK.of_two es _ _ (k1.more_le (fun b hb => List.mem_append_left _ hb) (PyData.depthAll_keys_le kvs)) (k2.more_le (fun b hb => List.mem_append_right _ hb) (PyData.depthAll_vals_le kvs))
section
variable {prog : Program} {w : World} {h0 : Heap}
mutual
theorem RdN.repr : ∀ {v : Value} {d : PyData}, RdN h0 v d → d.showable = true → d.shown.length ≤ sizeLine → ∃ bs, ReadAtMost h0 d.depth bs ∧ ReprK prog w bs h0 d.depth v d.shown
  | _, _, .non, _, _ => ⟨[], (fun _ z => nomatch z), by simp only [PyData.shown]; exact .of_is ReprIs.none _ _ _⟩
  | _, _, .bl b, _, _ => ⟨[], (fun _ z => nomatch z), by simp only [PyData.shown]; exact .of_is (ReprIs.bool b) _ _ _⟩
  | _, _, .int i t, hs, _ => ⟨[], (fun _ z => nomatch z), by simp only [PyData.shown]; exact .of_is (ReprIs.int t (by simpa [PyData.showable] using hs)) _ _ _⟩
  | _, _, .str x t, _, hz => ⟨[], (fun _ z => nomatch z), by simp only [PyData.shown]; exact .of_is (ReprIs.str x t (by simpa only [PyData.shown] using hz)) _ _ _⟩
  | _, _, .lst (a := a) (vs := vs) (xs := xs) h1 h2 h3 h4, hs, hz => by
    have hz' : (listText (PyData.shownAll xs)).length ≤ sizeLine := by simpa only [PyData.shown] using hz
    obtain ⟨bs, hb, hk⟩ := RdNs.repr h4 (by simpa [PyData.showable] using hs) fun t ht => Nat.le_trans (listText_mem_le ht) hz'
    obtain ⟨as, r⟩ := RdN.reads (.lst h1 h2 h3 h4)
    have hna : a ∉ bs := not_mem_of_deeper r (by simp only [PyData.depth]; omega) hb
    refine ⟨a :: bs, ReadAtMost.cons r (by simp only [PyData.depth]; omega) hb, ?_⟩
    simp only [PyData.depth, PyData.shown]
    obtain ⟨l⟩ := vs
    cases l with
    | nil =>
      have h4' : RdNs h0 [] xs := h4
      cases h4'
      simp only [PyData.shownAll, listText_nil]
      exact ReprK.listEmpty h1 h2 h3
    | cons x l => exact ReprK.list h1 h2 h3 hna (by simpa using hk.length_eq) fun i y e => hk.item i y (by simpa using e)
  | _, _, .tup (a := a) (xs := xs) h1 h2 h3 h4, hs, hz => by
    have hz' : (tupleText (PyData.shownAll xs)).length ≤ sizeLine := by simpa only [PyData.shown] using hz
    obtain ⟨bs, hb, hk⟩ := RdNs.repr h4 (by simpa [PyData.showable] using hs) fun t ht => Nat.le_trans (tupleText_mem_le ht) hz'
    obtain ⟨as, r⟩ := RdN.reads (.tup h1 h2 h3 h4)
    have hna : a ∉ bs := not_mem_of_deeper r (by simp only [PyData.depth]; omega) hb
    refine ⟨a :: bs, ReadAtMost.cons r (by simp only [PyData.depth]; omega) hb, ?_⟩
    simp only [PyData.depth, PyData.shown]
    exact ReprK.tuple h1 h2 h3 hna hk
  | _, _, .dct (a := a) (es := es) (kvs := kvs) hm h1 h2 h3 h4 h5, hs, hz => by
    have hz' : (dictText (PyData.shownKv kvs)).length ≤ sizeLine := by simpa only [PyData.shown] using hz
    obtain ⟨hs1, hs2⟩ := PyData.showableKv_split kvs (by simpa [PyData.showable] using hs)
    obtain ⟨b1, hb1, k1⟩ := RdNs.repr h4 hs1 fun t ht => let ⟨p, hp, hl⟩ := PyData.shownKv_key_le kvs t ht; Nat.le_trans hl (Nat.le_trans (dictText_mem_le hp) hz')
    obtain ⟨b2, hb2, k2⟩ := RdNs.repr h5 hs2 fun t ht => let ⟨p, hp, hl⟩ := PyData.shownKv_val_le kvs t ht; Nat.le_trans hl (Nat.le_trans (dictText_mem_le hp) hz')
    obtain ⟨as, r⟩ := RdN.reads (.dct hm h1 h2 h3 h4 h5)
    have hb : ReadAtMost h0 (PyData.depthKv kvs) (b1 ++ b2) := (hb1.mono (PyData.depthAll_keys_le kvs)).append (hb2.mono (PyData.depthAll_vals_le kvs))
    have hna : a ∉ b1 ++ b2 := not_mem_of_deeper r (by simp only [PyData.depth]; omega) hb
    refine ⟨a :: (b1 ++ b2), ReadAtMost.cons r (by simp only [PyData.depth]; omega) hb, ?_⟩
    simp only [PyData.depth, PyData.shown]
    exact ReprK.dict h1 h2 h3 hm hna (showKv k1 k2)
theorem RdNs.repr : ∀ {vs : List Value} {ds : List PyData}, RdNs h0 vs ds → PyData.showableAll ds = true → (∀ t ∈ PyData.shownAll ds, t.length ≤ sizeLine) → ∃ bs, ReadAtMost h0 (PyData.depthAll ds) bs ∧ ReprAllK prog w bs h0 (PyData.depthAll ds) vs (PyData.shownAll ds)
  | _, _, .nil, _, _ => ⟨[], (fun _ z => nomatch z), by simp only [PyData.shownAll]; exact .nil⟩
  | _, _, .cons (d := d) (ds := ds) r rs, hs, hz => by
    have hs' : d.showable = true ∧ PyData.showableAll ds = true := by simpa [PyData.showableAll] using hs
    obtain ⟨b1, hb1, k1⟩ := RdN.repr r hs'.1 (hz _ (by simp only [PyData.shownAll]; exact List.mem_cons_self ..))
    obtain ⟨b2, hb2, k2⟩ := RdNs.repr rs hs'.2 fun t ht => hz t (by simp only [PyData.shownAll]; exact List.mem_cons_of_mem _ ht)
    refine ⟨b1 ++ b2, by simp only [PyData.depthAll]; exact (hb1.mono (Nat.le_max_left _ _)).append (hb2.mono (Nat.le_max_right _ _)), ?_⟩
    simp only [PyData.depthAll, PyData.shownAll]
    exact .cons ((k1.more fun b hb => List.mem_append_left _ hb).level_le (Nat.le_max_left _ _)) (k2.more_le (fun b hb => List.mem_append_right _ hb) (Nat.le_max_right _ _))
end
/-- how a reference is shown -/
theorem shows_of {a : Addr} {d : PyData} (r : RdN h0 (.ref a) d) (hs : d.showable = true) (hsz : d.shown.length ≤ sizeLine) : ∃ T idr, ShowsBy prog w h0 a d T idr := by
  cases r with
  | lst h1 h2 h3 h4 =>
    rename_i o vs n xs
    have hz' : (listText (PyData.shownAll xs)).length ≤ sizeLine := by simpa only [PyData.shown] using hsz
    obtain ⟨bs, hb, hk⟩ := RdNs.repr (prog := prog) (w := w) h4 (by simpa [PyData.showable] using hs) fun t ht => Nat.le_trans (listText_mem_le ht) hz'
    obtain ⟨as, rr⟩ := RdN.reads (.lst h1 h2 h3 h4)
    have hna : a ∉ bs := not_mem_of_deeper rr (by simp only [PyData.depth]; omega) hb
    refine ⟨"list", "list.__repr__", F.slot_list_repr.toG, F.slot_list_str, F.slot_list_format, fun s hk0 => ⟨o, hk0 _ _ h1, h2⟩, fun A E s Q hg hu hk0 hQ => ?_⟩
    simp only [PyData.depth] at hu
    simp only [PyData.shown] at hQ
    obtain ⟨l⟩ := vs
    cases l with
    | nil =>
      have h4' : RdNs h0 [] xs := h4
      cases h4'
      simp only [PyData.shownAll, listText_nil] at hQ
      exact call_list_repr_empty ⟨o, hk0 _ _ h1, h2⟩ (hk0 _ _ h1) h3 (hQ s.heap _ _ fun _ _ e => e)
    | cons x l => exact call_list_reprK h1 h2 h3 hna (by simpa using hk.length_eq) (fun i y e => hk.item i y (by simpa using e)) hg (fun b _ => Clear.nil b) hu hk0 hQ hz'
  | tup h1 h2 h3 h4 =>
    rename_i o vs n xs
    have hz' : (tupleText (PyData.shownAll xs)).length ≤ sizeLine := by simpa only [PyData.shown] using hsz
    obtain ⟨bs, hb, hk⟩ := RdNs.repr (prog := prog) (w := w) h4 (by simpa [PyData.showable] using hs) fun t ht => Nat.le_trans (tupleText_mem_le ht) hz'
    obtain ⟨as, rr⟩ := RdN.reads (.tup h1 h2 h3 h4)
    have hna : a ∉ bs := not_mem_of_deeper rr (by simp only [PyData.depth]; omega) hb
    refine ⟨"tuple", "tuple.__repr__", F.slot_tuple_repr, F.slot_tuple_str, F.slot_tuple_format, fun s hk0 => ⟨o, hk0 _ _ h1, h2⟩, fun A E s Q hg hu hk0 hQ => ?_⟩
    simp only [PyData.depth] at hu
    simp only [PyData.shown] at hQ
    exact call_tuple_reprK h1 h2 h3 hna hk hg (fun b _ => Clear.nil b) hu hk0 hQ hz'
  | dct hm h1 h2 h3 h4 h5 =>
    rename_i o es n kvs
    have hz' : (dictText (PyData.shownKv kvs)).length ≤ sizeLine := by simpa only [PyData.shown] using hsz
    obtain ⟨hs1, hs2⟩ := PyData.showableKv_split kvs (by simpa [PyData.showable] using hs)
    obtain ⟨b1, hb1, k1⟩ := RdNs.repr (prog := prog) (w := w) h4 hs1 fun t ht => let ⟨p, hp, hl⟩ := PyData.shownKv_key_le kvs t ht; Nat.le_trans hl (Nat.le_trans (dictText_mem_le hp) hz')
    obtain ⟨b2, hb2, k2⟩ := RdNs.repr (prog := prog) (w := w) h5 hs2 fun t ht => let ⟨p, hp, hl⟩ := PyData.shownKv_val_le kvs t ht; Nat.le_trans hl (Nat.le_trans (dictText_mem_le hp) hz')
    obtain ⟨as, rr⟩ := RdN.reads (.dct hm h1 h2 h3 h4 h5)
    have hb : ReadAtMost h0 (PyData.depthKv kvs) (b1 ++ b2) := (hb1.mono (PyData.depthAll_keys_le kvs)).append (hb2.mono (PyData.depthAll_vals_le kvs))
    have hna : a ∉ b1 ++ b2 := not_mem_of_deeper rr (by simp only [PyData.depth]; omega) hb
    refine ⟨"dict", "dict.__repr__", F.slot_dict_repr, F.slot_dict_str, F.slot_dict_format, fun s hk0 => ⟨o, hk0 _ _ h1, h2⟩, fun A E s Q hg hu hk0 hQ => ?_⟩
    simp only [PyData.depth] at hu
    simp only [PyData.shown] at hQ
    exact call_dict_reprK h1 h2 h3 hm hna (showKv k1 k2) hg (fun b _ => Clear.nil b) hu hk0 hQ hz'
theorem repr_ref {A : Around} {E : Value → Shared → Prop} {s : Shared} {Q : Value → Shared → Prop} {a : Addr} {d : PyData} (r : RdN h0 (.ref a) d) (hs : d.showable = true) (hsz : d.shown.length ≤ sizeLine) (hg : A.guards = some []) (hu : A.units + (d.depth + 1) < cLine)
    (hk0 : ∀ b o, h0.get? b = some o → s.heap.get? b = some o) (hQ : ∀ h' u tk, (∀ b o, s.heap.get? b = some o → h'.get? b = some o) → Q (.str d.shown u) { s with heap := h', toks := tk }) : wpAny (model prog w) A (call (.builtin "repr") [.ref a]) Q E s := by
  obtain ⟨T, idr, S⟩ := shows_of (prog := prog) (w := w) r hs hsz
  exact call_repr_slot (by omega) (S.typeIs s hk0) S.slotRepr (S.call A.in1 E s _ hg (by show A.units + 1 + d.depth < cLine; omega) hk0 fun h' u tk hk => ⟨_, _, rfl, hQ h' u tk hk⟩)
end

/-! ### data as such -/
mutual
def toR : D → PyData
  | .bl b => .bool b
  | .int i => .int i
  | .str x => .str x
  | .tup xs => .tuple (toRs xs)
  | .lst xs => .list (toRs xs)
  | .wtp xs => .tuple (toRs xs)
  | .dct ps => .dict (toRp ps)
  | _ => .none
def toRs : List D → List PyData
  | [] => []
  | x :: xs => toR x :: toRs xs
def toRp : List (D × D) → List (PyData × PyData)
  | [] => []
  | (k, v) :: r => (toR k, toR v) :: toRp r
end
mutual
/-- nothing but None, bools, ints, texts, tuples, lists, dicts -/
def plainR : D → Bool
  | .non => true
  | .bl _ => true
  | .int _ => true
  | .str _ => true
  | .tup xs => plainRs xs
  | .lst xs => plainRs xs
  | .wtp xs => plainRs xs
  | .dct ps => plainRp ps
  | _ => false
def plainRs : List D → Bool
  | [] => true
  | x :: xs => plainR x && plainRs xs
def plainRp : List (D × D) → Bool
  | [] => true
  | (_, v) :: r => plainR v && plainRp r
end
theorem plainRs_at : ∀ {ds : List D}, plainRs ds = true → ∀ (i : Nat) d, ds[i]? = some d → plainR d = true
  | [], _, i, d, e => by simp at e
  | x :: xs, h, i, d, e => by
    simp only [plainRs, Bool.and_eq_true] at h
    cases i with
    | zero => simp at e; subst e; exact h.1
    | succ i => exact plainRs_at h.2 i d (by simpa using e)
theorem plainRp_at : ∀ {ds : List (D × D)}, plainRp ds = true → ∀ (i : Nat) d, ds[i]? = some d → plainR d.2 = true
  | [], _, i, d, e => by simp at e
  | (k, x) :: xs, h, i, d, e => by
    simp only [plainRp, Bool.and_eq_true] at h
    cases i with
    | zero => simp at e; subst e; exact h.1
    | succ i => exact plainRp_at h.2 i d (by simpa using e)
theorem toRp_fst : ∀ ps : List (D × D), (toRp ps).map (·.1) = toRs (ps.map (·.1))
  | [] => rfl
  | (k, v) :: r => by simp only [toRp, List.map_cons, toRs, toRp_fst r]
theorem toRp_snd : ∀ ps : List (D × D), (toRp ps).map (·.2) = toRs (ps.map (·.2))
  | [] => rfl
  | (k, v) :: r => by simp only [toRp, List.map_cons, toRs, toRp_snd r]
theorem rdNs_of {h : Heap} : ∀ {vs : List V} {us : List Value} {ds : List D}, Vals vs us → vs.length = ds.length → (∀ (i : Nat) (v : V) (d : D) (u : Value), vs[i]? = some v → ds[i]? = some d → RelV v u → RdN h u (toR d)) → RdNs h us (toRs ds)
  | [], _, [], r, _, _ => by cases r; simp only [toRs]; exact .nil
  | v :: vs, _, d :: ds, r, hl, q => by
    cases r with
    | cons r1 r2 =>
      simp only [toRs]
      exact .cons (q 0 v d _ rfl rfl r1) (rdNs_of r2 (by simpa using hl) fun i v d u h1 h2 => q (i + 1) v d u (by simpa using h1) (by simpa using h2))
  | [], _, _ :: _, _, hl, _ => by simp at hl
  | _ :: _, _, [], _, hl, _ => by simp at hl
theorem rdN_key {h : Heap} {k : Key} {u : Value} (r : keyIs k u = true) : RdN h u (toR (keyD k)) := by
  rcases keyIs_shape r with ⟨i, t, rfl, rfl⟩ | ⟨x, t, rfl, rfl⟩
  · exact .int i t
  · exact .str x t
theorem rdNs_items {P : Program} {w : World} {h : Heap} {ks : List Key} {us : List Value} (r : ItemsAre (mixKind P w) ks us) : RdNs h us (toRs (ks.map keyD)) := by
  induction r with
  | nil => simp only [List.map_nil, toRs]; exact .nil
  | cons r1 _ ih => simp only [List.map_cons, toRs]; exact .cons (rdN_key r1) ih
section
variable {G : Glob} {X : Cx} {pins : List (Addr × Obj)} {σ : L2.St} {S : Fz} {H : Hp} {s : Shared}
theorem rdN_dK {a : Addr} {kvs : List (Key × V)} {ps : List (D × D)} (I : Inv X pins σ H s) (e : Rd H a (.dK kvs)) (hl : kvs.length = ps.length) (hk : ∀ (i : Nat) (k : Key × V) (p : D × D), kvs[i]? = some k → ps[i]? = some p → p.1 = keyD k.1)
    (q : ∀ (i : Nat) (k : Key × V) (p : D × D) (u : Value), kvs[i]? = some k → ps[i]? = some p → RelV k.2 u → RdN s.heap u (toR p.2)) : RdN s.heap (.ref a) (.dict (toRp ps)) := by
  obtain ⟨hz0, hm, vs, rel, o, es, ep, h1, h2, h3, _, h4, hn0⟩ := dk_rd I.hok e
  clear hz0 hn0
  refine .dct hm h1 h2.1 h3 ?_ ?_
  · rw [toRp_fst]
    clear e h1 h2 h3 hm
    generalize es.toList = es at h4
    induction h4 generalizing kvs ps with
    | nil => cases rel; cases ps with
      | nil => simp only [List.map_nil, toRs]; exact .nil
      | cons _ _ => simp at hl
    | cons c1 c2 _ ih =>
      cases rel with
      | cons r1 r2 =>
        cases ps with
        | nil => simp at hl
        | cons p ps =>
          simp only [List.map_cons, toRs]
          refine .cons ?_ (ih (by simpa using hl) (fun i k p h1 h2 => hk (i + 1) k p (by simpa using h1) (by simpa using h2)) (fun i k p u h1 h2 => q (i + 1) k p u (by simpa using h1) (by simpa using h2)) r2)
          rw [hk 0 _ _ rfl rfl, r1.1]
          exact rdN_key c1
  · rw [toRp_snd]
    clear e h1 h2 h3 hm
    generalize es.toList = es at h4
    induction h4 generalizing kvs ps with
    | nil => cases rel; cases ps with
      | nil => simp only [List.map_nil, toRs]; exact .nil
      | cons _ _ => simp at hl
    | cons c1 c2 _ ih =>
      cases rel with
      | cons r1 r2 =>
        cases ps with
        | nil => simp at hl
        | cons p ps =>
          simp only [List.map_cons, toRs]
          refine .cons ?_ (ih (by simpa using hl) (fun i k p h1 h2 => hk (i + 1) k p (by simpa using h1) (by simpa using h2)) (fun i k p u h1 h2 => q (i + 1) k p u (by simpa using h1) (by simpa using h2)) r2)
          rw [c2]
          exact q 0 _ _ _ rfl rfl r1.2
theorem rdN_dT {a : Addr} {kvs : List (List Key × V)} {ps : List (D × D)} (I : Inv X pins σ H s) (e : Rd H a (.dT kvs)) (hl : kvs.length = ps.length) (hk : ∀ (i : Nat) (k : List Key × V) (p : D × D), kvs[i]? = some k → ps[i]? = some p → p.1 = .tup (k.1.map keyD))
    (q : ∀ (i : Nat) (k : List Key × V) (p : D × D) (u : Value), kvs[i]? = some k → ps[i]? = some p → RelV k.2 u → RdN s.heap u (toR p.2)) : RdN s.heap (.ref a) (.dict (toRp ps)) := by
  obtain ⟨hz0, hm, xs, rel, o, es, ep, h1, h2, h3, h4, h5, hn0⟩ := dt_rd I.hok e
  clear hz0 hn0
  refine .dct hm h1 h2.1 h3 ?_ ?_
  · rw [toRp_fst, h4]
    clear e h1 h2 h3 hm h4
    induction rel generalizing ps with
    | nil => cases ps with
      | nil => simp only [List.map_nil, toRs]; exact .nil
      | cons _ _ => simp at hl
    | cons r1 r2 ih =>
        cases ps with
        | nil => simp at hl
        | cons p ps =>
          simp only [List.map_cons, toRs]
          refine .cons ?_ (ih (by simpa using hl) (fun i k p h1 h2 => hk (i + 1) k p (by simpa using h1) (by simpa using h2)) (fun i k p u h1 h2 => q (i + 1) k p u (by simpa using h1) (by simpa using h2)) fun x hx => h5 x (List.mem_cons_of_mem _ hx))
          rw [hk 0 _ _ rfl rfl, r1.1]
          obtain ⟨o', items, n, g1, g2, g3, g4⟩ := h5 _ List.mem_cons_self
          simp only [toR]
          exact .tup g1 g2 g3 (rdNs_items g4)
  · rw [toRp_snd, h4]
    clear e h1 h2 h3 hm h4
    induction rel generalizing ps with
    | nil => cases ps with
      | nil => simp only [List.map_nil, toRs]; exact .nil
      | cons _ _ => simp at hl
    | cons r1 r2 ih =>
        cases ps with
        | nil => simp at hl
        | cons p ps =>
          simp only [List.map_cons, toRs]
          refine .cons ?_ (ih (by simpa using hl) (fun i k p h1 h2 => hk (i + 1) k p (by simpa using h1) (by simpa using h2)) (fun i k p u h1 h2 => q (i + 1) k p u (by simpa using h1) (by simpa using h2)) fun x hx => h5 x (List.mem_cons_of_mem _ hx))
          exact q 0 _ _ _ rfl rfl r1.2.2
theorem rdN_lst {a : Addr} {vs : List V} {ds : List D} (I : Inv X pins σ H s) (hs : SqL X.K H a vs) (hl : vs.length = ds.length) (q : ∀ (i : Nat) (v : V) (d : D) (u : Value), vs[i]? = some v → ds[i]? = some d → RelV v u → RdN s.heap u (toR d)) : RdN s.heap (.ref a) (.list (toRs ds)) := by
  obtain ⟨its, rv, ⟨o, n, ho, hc, _, hd⟩, _⟩ := I.list hs
  exact .lst ho hc hd (rdNs_of rv hl q)
theorem rdN_tup {a : Addr} {vs : List V} {ds : List D} (I : Inv X pins σ H s) (hs : SqT X.K H a vs) (hl : vs.length = ds.length) (q : ∀ (i : Nat) (v : V) (d : D) (u : Value), vs[i]? = some v → ds[i]? = some d → RelV v u → RdN s.heap u (toR d)) : RdN s.heap (.ref a) (.tuple (toRs ds)) := by
  obtain ⟨its, rv, ⟨o, ho, hc, n, hd⟩, _⟩ := I.tuple hs
  exact .tup ho hc hd (rdNs_of rv hl q)
theorem Den.rdN {v : V} {d : D} (h : Den G X.K S v d) (le : ∀ a o, S a = some o → H a = some o) (hp : plainR d = true) (I : Inv X pins σ H s) : ∀ {u : Value}, RelV v u → RdN s.heap u (toR d) := by
  have rle : ∀ {a u}, Rd S a u → Rd H a u := fun r => r.elim (fun r => .inl (le _ _ r)) fun ⟨o, r⟩ => .inr ⟨o, le _ _ r⟩
  induction h with
  | non => intro u r; cases r; exact .non
  | bl b => intro u r; cases r; exact .bl b
  | int i => intro u r; obtain ⟨t, rfl⟩ := r; exact .int i t
  | str x => intro u r; obtain ⟨t, rfl⟩ := r; exact .str x t
  | @tup a vs ds h l r ih =>
    intro u ru; cases ru
    simp only [toR]
    have hp' : plainRs ds = true := by simpa only [plainR] using hp
    exact rdN_tup I (SqT.of (le _ _ h)) l fun i v d u h1 h2 ru => ih i v d h1 h2 (plainRs_at hp' i d h2) ru
  | @lst a vs ds h l r ih =>
    intro u ru; cases ru
    simp only [toR]
    have hp' : plainRs ds = true := by simpa only [plainR] using hp
    exact rdN_lst I (SqL.of (le _ _ h)) l fun i v d u h1 h2 ru => ih i v d h1 h2 (plainRs_at hp' i d h2) ru
  | @wtp a vs ds h l r ih =>
    intro u ru; cases ru
    simp only [toR]
    have hp' : plainRs ds = true := by simpa only [plainR] using hp
    exact rdN_tup I (h H) l fun i v d u h1 h2 ru => ih i v d h1 h2 (plainRs_at hp' i d h2) ru
  | @dK a kvs ps h l k r ih =>
    intro u ru; cases ru
    simp only [toR]
    have hp' : plainRp ps = true := by simpa only [plainR] using hp
    exact rdN_dK I (rle h) l k fun i v d u h1 h2 ru => ih i v d h1 h2 (plainRp_at hp' i d h2) ru
  | @dT a kvs ps h n l k r ih =>
    intro u ru; cases ru
    simp only [toR]
    have hp' : plainRp ps = true := by simpa only [plainR] using hp
    exact rdN_dT I (rle h) l k fun i v d u h1 h2 ru => ih i v d h1 h2 (plainRp_at hp' i d h2) ru
  | ins => simp [plainR] at hp
  | cls => simp [plainR] at hp
  | tok => simp [plainR] at hp
  | wls => simp [plainR] at hp
  | exc0 => simp [plainR] at hp
  | exc1 => simp [plainR] at hp
  | excR0 => simp [plainR] at hp
  | excR1 => simp [plainR] at hp
  | fn => simp [plainR] at hp
theorem OwnAt.rdN {a : Addr} {o : Own} (h : OwnAt G X.K S H a o) (le : ∀ a o, S a = some o → H a = some o) (hp : plainR o.d = true) (I : Inv X pins σ H s) : RdN s.heap (.ref a) (toR o.d) := by
  cases o with
  | ins c fs => simp [Own.d, plainR] at hp
  | lst xs =>
    obtain ⟨vs, h, l⟩ := h
    have hp' : plainRs xs = true := by simpa only [Own.d, plainR] using hp
    simp only [Own.d, toR]
    exact rdN_lst I (SqL.of h) l.length fun i v d u h1 h2 ru => (paired_at l i v d h1 h2).rdN le (plainRs_at hp' i d h2) I ru
  | dct ps =>
    have hp' : plainRp ps = true := by simpa only [Own.d, plainR] using hp
    simp only [Own.d, toR]
    rcases h with ⟨kvs, h, l⟩ | ⟨kvs, h, _, l⟩
    · exact rdN_dK I (.inl h) l.length (fun i v d h1 h2 => (paired_at l i v d h1 h2).1) fun i v d u h1 h2 ru => (paired_at l i v d h1 h2).2.rdN le (plainRp_at hp' i d h2) I ru
    · exact rdN_dT I (.inl h) l.length (fun i v d h1 h2 => (paired_at l i v d h1 h2).1) fun i v d u h1 h2 ru => (paired_at l i v d h1 h2).2.rdN le (plainRp_at hp' i d h2) I ru
end
/-- a reference that is read as data -/
def rRepr (K : PySem.W.Frag) (x : V) (H : Hp) (Q : VK) : Prop := ∃ (G : Glob) (S : Fz) (d : D), (Den G K S x d ∨ ∃ a o, x = .ref a ∧ d = Own.d o ∧ OwnAt G K S H a o) ∧ (∀ a o, S a = some o → H a = some o) ∧ plainR d = true ∧ (toR d).showable = true ∧ (toR d).shown.length ≤ sizeLine ∧ (toR d).depth ≤ 60 ∧
  (∃ a, x = .ref a) ∧ Q (.str (toR d).shown) H
theorem call_reprD {X : Cx} (hg : X.A.guards = some []) (hu : X.A.units + 64 < cLine) : CallR X (.builtin "repr") (fun xs H Q => ∃ x, xs = [x] ∧ rRepr X.K x H Q) := by
  intro pins s σ H xs us Q I r h
  obtain ⟨x, rfl, G, S, d, hd, le, hp, hs, hz, hdp, ⟨a, rfl⟩, q⟩ := h
  obtain ⟨u, rfl, ru⟩ := vals1 r
  cases ru
  have rd : RdN s.heap (.ref a) (toR d) := by
    rcases hd with hd | ⟨b, o, e, rfl, w⟩
    · exact hd.rdN le hp I rfl
    · cases e
      exact w.rdN le hp I
  exact repr_ref rd hs hz hg (by omega) (fun _ _ e => e) fun h' u tk hk => ⟨.str _, H, I.kept (t' := tk) hk, ⟨u, rfl⟩, q⟩
def isRefD : D → Bool
  | .tup _ => true
  | .lst _ => true
  | .dct _ => true
  | .wtp _ => true
  | _ => false
def opRepr (x : D) (P : D → Prop) : Prop := isRefD x = true ∧ plainR x = true ∧ (toR x).showable = true ∧ (toR x).shown.length ≤ sizeLine ∧ (toR x).depth ≤ 60 ∧ P (.str (toR x).shown)
section
variable {G : Glob} {X : Cx} {O : XO} {e : Expr} {ka : Kd} {ca : Bool} {na : Nat} {fa : FE} {pos p : Pos}
end
end WL

/-! WN: calls of defs with keywords. -/
namespace WL
open PySem PySem.Spec PyProof.Rows L2
section
variable {X : Cx} {k n : Nat} {f : Addr} {fd : FuncData} {ps ks : List Str} {sp : Sp} {E : L2.St → XK} {x : Str} {p pos : Pos} {e : Expr} {es : List Expr} {kws : List Keyword} {t tk : TA} {g : List Value → List Value → List Value} {gV : List V → List V → List V}
end
/-! ### over data -/
structure PDk (G : Glob) (X : Cx) (O : XO) (es : List Keyword) (c : Bool) (n : Nat) (f : FA) : Prop where
  run : ∃ t : TA, PK X es t ∧ ∀ (B : Bs) (S : Fz) (H : Hp) (σ : L2.St) (ρ : EnvD) (Kc : EnvD → List D → Prop) (Q : List V → Hp → Prop), Eok G X.K O B S H σ ρ → S.T + n ≤ limT → f ρ Kc →
    (∀ vs H' S' ρ' ds, Eok G X.K O B S' H' σ ρ' → Sub n S S' → (c = true → ρ' = ρ) → DenL G X.K S' vs ds → Kc ρ' ds → Q vs H') → t σ H Q
/-- the def x of the module, called with n positional values and the keywords ks; gD: the order of the parameters -/
structure FnK (G : Glob) (P : Program) (w : World) (K : PySem.W.Frag) (mg : Str → Option Value) (base : Heap) (x : Str) (k : Nat) (rk : Bool) (m : Spc) (n : Nat) (ks : List Str) (gD : List D → List D → List D) : Prop where
  ex : ∃ (f : Addr) (fd : FuncData) (ps : List Str) (g : List Value → List Value → List Value) (gV : List V → List V → List V), FnG P w K mg base k f fd ps (spD G K rk ps.length m) ∧ mg x = some (.ref f) ∧ PySem.W.keepIn K (.ref f) = true ∧ KBn K fd ps n ks g gV ∧
    (∀ S vs zs ds es, DenL G K S vs ds → DenL G K S zs es → vs.length = n → zs.length = ks.length → DenL G K S (gV vs zs) (gD ds es) ∧ (gV vs zs).length = ps.length)
def fCallK (xd : D → Prop) (m : Spc) (n j : Nat) (gD : List D → List D → List D) (fa fk : FA) : FE := fun ρ Kc => fa ρ fun ρ1 ds => fk ρ1 fun ρ2 es => (ds.length = n ∧ es.length = j) ∧ m.pre (gD ds es) ∧ (∀ d, m.post (gD ds es) d → Kc ρ2 d) ∧ ∀ x, m.exc (gD ds es) x → xd x
section
variable {G : Glob} {X : Cx} {O : XO} {rk : Bool} {x : Str} {p pos kpos : Pos} {e : Expr} {es : List Expr} {kws : List Keyword} {k j n : Nat} {m : Spc} {ks : List Str} {gD : List D → List D → List D} {c ca cb : Bool} {na nb : Nat} {fa fk : FA} {f : FE} {nm : Option Str}
theorem k_nil : PDk G X O [] true 0 fNil := ⟨_, pk_nil, fun B S H σ ρ Kc Q I hb hf hq => hq [] H S ρ [] I (Sub.refl _) (fun _ => rfl) .nil hf⟩
theorem k_cons (ha : PDe G X O e .st ca na f) (hr : PDk G X O kws cb nb fk) : PDk G X O (⟨nm, e, kpos⟩ :: kws) (ca && cb) (na + nb) (fCons f fk) := by
  obtain ⟨ta, pa, qa⟩ := ha.run
  obtain ⟨tb, pb, qb⟩ := hr.run
  refine ⟨_, pk_cons pa pb, fun B S H σ ρ Kc Q I hb hf hq => ?_⟩
  refine qa B S H σ ρ _ _ I (by omega) hf fun v H1 S1 ρ1 x I1 m1 c1 r1 h1 => ?_
  refine qb B S1 H1 σ ρ1 _ _ I1 (by have := m1.lo; omega) h1 fun vs H2 S2 ρ2 xs I2 m2 c2 r2 h2 => ?_
  exact hq _ H2 S2 ρ2 _ I2 (m1.trans m2) (fun z => by
    have := Bool.and_eq_true_iff.mp z
    rw [c2 this.2, c1 this.1]) (.cons (Den.mono m2 r1) r2) h2
end
end WL

/-! WO: dict displays, dict stores. -/
namespace WL
open PySem PySem.Spec PyProof.Rows L2
abbrev FP := EnvD → (EnvD → List (D × D) → Prop) → Prop
def DenP (G : Glob) (K : PySem.W.Frag) (S : Fz) (ps : List (V × V)) (ds : List (D × D)) : Prop := Paired (fun p d => Den G K S p.1 d.1 ∧ Den G K S p.2 d.2) ps ds
structure PDp (G : Glob) (X : Cx) (O : XO) (pos : Pos) (keys : List (Option Expr)) (values : List Expr) (c : Bool) (n : Nat) (f : FP) : Prop where
  run : ∃ trs : List (TE × TE), PPs X pos keys values trs ∧ ∀ (B : Bs) (S : Fz) (H : Hp) (σ : L2.St) (ρ : EnvD) (Kc : EnvD → List (D × D) → Prop) (Q : List (V × V) → Hp → Prop), Eok G X.K O B S H σ ρ → S.T + n ≤ limT → f ρ Kc →
    (∀ vs H' S' ρ' ds, Eok G X.K O B S' H' σ ρ' → Sub n S S' → (c = true → ρ' = ρ) → DenP G X.K S' vs ds → Kc ρ' ds → Q vs H') → tPairs trs σ H Q
def fPNil : FP := fun ρ Kc => Kc ρ []
def fPCons (fk fv : FE) (fr : FP) : FP := fun ρ Kc => fk ρ fun ρ1 x => fv ρ1 fun ρ2 y => fr ρ2 fun ρ3 r => Kc ρ3 ((x, y) :: r)
/-- the pairs put one behind another -/
def mergeD (ds : List (D × D)) : List (D × D) := ds.foldl (fun acc p => putD acc p.1 p.2) []
def keysOk : List (D × D) → Bool
  | [] => true
  | p :: r => (key1 p.1).isSome && keysOk r
def fDisp (fp : FP) : FE := fun ρ Kc => fp ρ fun ρ1 ds => (keysOk ds = true ∧ ds.length ≤ 15) ∧ Kc ρ1 (.dct (mergeD ds))
section
variable {G : Glob} {X : Cx} {O : XO} {ka kb k v e : Expr} {c ca cb cr : Bool} {n na nb nr : Nat} {fa fb f : FE} {fr : FP} {pos : Pos} {keys : List (Option Expr)} {values : List Expr}
theorem p_nil : PDp G X O pos [] [] true 0 fPNil := ⟨_, pps_nil, fun B S H σ ρ Kc Q I hb hf hq => hq [] H S ρ [] I (Sub.refl _) (fun _ => rfl) .nil hf⟩
theorem p_cons (hk : PDe G X O k .st ca na fa) (hv : PDe G X O v .st cb nb fb) (hr : PDp G X O pos keys values cr nr fr) : PDp G X O pos (some k :: keys) (v :: values) (ca && (cb && cr)) (na + (nb + nr)) (fPCons fa fb fr) := by
  obtain ⟨ta, pa, qa⟩ := hk.run
  obtain ⟨tb, pb, qb⟩ := hv.run
  obtain ⟨tr, pr, qr⟩ := hr.run
  refine ⟨_, pps_cons pa pb pr, fun B S H σ ρ Kc Q I hb hf hq => ?_⟩
  refine qa B S H σ ρ _ _ I (by omega) hf fun v H1 S1 ρ1 x I1 m1 c1 r1 h1 => ?_
  refine qb B S1 H1 σ ρ1 _ _ I1 (by have := m1.lo; omega) h1 fun w H2 S2 ρ2 y I2 m2 c2 r2 h2 => ?_
  refine qr B S2 H2 σ ρ2 _ _ I2 (by have := m1.lo; have := m2.lo; omega) h2 fun vs H3 S3 ρ3 ds I3 m3 c3 r3 h3 => ?_
  refine hq _ H3 S3 ρ3 _ I3 (m1.trans (m2.trans m3)) (fun z => ?_) (.cons (show Den G X.K S3 v x ∧ Den G X.K S3 w y from ⟨Den.mono (m2.trans m3) r1, Den.mono m3 r2⟩) r3) h3
  have z1 := Bool.and_eq_true_iff.mp z
  have z2 := Bool.and_eq_true_iff.mp z1.2
  rw [c3 z2.2, c2 z2.1, c1 z1.1]
theorem denP_keys {K : PySem.W.Frag} {S : Fz} : ∀ {ps : List (V × V)} {ds : List (D × D)}, DenP G K S ps ds → keysOk ds = true → ∃ kvs : List (Key × V), ps = kvs.map (fun kv => (kV kv.1, kv.2)) ∧ DenK G K S kvs ds
  | [], [], _, _ => ⟨[], rfl, .nil⟩
  | p :: ps, d :: ds, h, hk => by
    cases h with
    | cons r t =>
      simp only [keysOk, Bool.and_eq_true] at hk
      obtain ⟨k, ek⟩ := Option.isSome_iff_exists.mp hk.1
      obtain ⟨kvs, e, l⟩ := denP_keys t hk.2
      have e1 := key1_inv ek
      have rk := r.1
      rw [e1] at rk
      refine ⟨(k, p.2) :: kvs, ?_, .cons ⟨e1, r.2⟩ l⟩
      rw [List.map_cons, ← e, ← den_key rk]
  | [], _ :: _, h, _ => by cases h
  | _ :: _, [], h, _ => by cases h
theorem denK_merge {K : PySem.W.Frag} {S : Fz} : ∀ {kvs : List (Key × V)} {ds : List (D × D)} {acc : List (Key × V)} {bcc : List (D × D)}, DenK G K S kvs ds → DenK G K S acc bcc → DenK G K S (mergeK acc kvs) (ds.foldl (fun acc p => putD acc p.1 p.2) bcc)
  | [], _, acc, bcc, h, ha => by cases h; exact ha
  | p :: kvs, _, acc, bcc, h, ha => by
    cases h with
    | @cons _ d _ ds r t =>
      show DenK G K S (mergeK (putK acc p.1 p.2) kvs) (ds.foldl (fun acc p => putD acc p.1 p.2) (putD bcc d.1 d.2))
      rw [r.1]
      exact denK_merge t (ha.put p.1 r.2)
theorem e_disp (hp : PDp G X O pos keys values c n fr) (hall : keys.all (·.isSome) = true := by rfl) (hl : keys.length = values.length := by rfl) (h0 : keys ≠ [] := by exact List.cons_ne_nil _ _) (h15 : keys.length ≤ 15 := by decide) : PDe G X O (.Dict keys values pos) .fr c n (fDisp fr) := by
  obtain ⟨tr, pr, qr⟩ := hp.run
  refine ⟨_, pe_disp pr hall hl h0 h15, fun B S H σ ρ Kc Q I hb hf hq p hp => ?_⟩
  obtain ⟨hs, hm, hh⟩ := I.toSta.new hp
  have I0 := (I.laid (u := .dK []) hp).aside (o := .dct []) ⟨hs, hm, hh, .inl ⟨[], upd_same, .nil⟩⟩ (I.laid (u := .dK []) hp |> fun _ => I.nob hp)
  refine qr _ S _ σ ρ _ _ I0 hb hf fun vs H2 S2 ρ2 ds I2 m2 c2 r2 h2 => ?_
  obtain ⟨⟨hk, hn⟩, h3⟩ := h2
  obtain ⟨_, w, _⟩ := I2.back
  have e2 : H2 p = some (.dK []) := by
    rcases w.at_ with ⟨kvs, e, l⟩ | ⟨kvs, _, n, l⟩
    · cases l; exact e
    · cases l; exact absurd rfl n
  obtain ⟨kvs, e3, l⟩ := denP_keys r2 hk
  have l2 := denK_merge l (acc := []) (bcc := []) .nil
  obtain ⟨I3, w3, n3⟩ := (I2.chgAside (o' := .dct (mergeD ds)) (u := .dK (mergeK [] kvs)) (.inl ⟨_, upd_same, l2⟩)).back
  exact ⟨e2, kvs, e3, by rw [l.length]; exact hn, hq _ _ S2 ρ2 _ I3 m2 c2 ⟨p, .dct (mergeD ds), rfl, rfl, w3, rfl, n3⟩ h3⟩
/-- {} -/
theorem e_dnew : PDe G X O (.Dict [] [] pos) .fr true 0 (fC (.dct [])) := ⟨_, pe_dnewK, fun B S H σ ρ Kc Q I hb hf hq p hp => by
  obtain ⟨I', r⟩ := I.lays (u := .dK []) (o := .dct []) hp (.inl ⟨[], upd_same, .nil⟩)
  exact hq _ _ _ _ _ I' (Sub.refl _) (fun _ => rfl) r hf⟩

/-! ### d[k] = v -/
def ownD (ρ : EnvD) (i : Nat) (P : List (D × D) → Prop) : Prop := match ρ[i]? with
  | some (some (.own (.dct ps))) => P ps
  | _ => False
/-- the key is of the dict's kind, or the dict is empty -/
def fitsP (ps : List (D × D)) (k : D) : Bool := (keyOf k).isSome && match ps with
  | [] => true
  | p :: _ => isT p.1 == isT k
def fDPut (i : Nat) (fy fv : FE) : FS := fun Ed ρ => fv ρ fun ρ1 v => ownD ρ1 i fun _ => fy ρ1 fun ρ2 y => ownD ρ2 i fun ps => (fitsP ps y = true ∧ ps.length < sizeLine) ∧ Ed.nx (ρ2.set i (some (.own (.dct (putD ps y v)))))
end
end WL

/-! WP: the draws of a law. -/
namespace WL
open PySem PySem.Spec PyProof.Rows L2 LamX
def drawK (b c : Addr) (r t : Int) : List (Key × V) := [(.inr "wide", .ref b), (.inr "cells", .ref c), (.inr "rest", .int r), (.inr "turn", .int t)]
structure DrawAt (H : Hp) (a b c : Addr) (ws cs : List Int) (r t : Int) : Prop where
  ha : H a = some (.dK (drawK b c r t))
  hb : H b = some (.lst (ws.map V.int))
  hc : H c = some (.lst (cs.map V.int))
theorem DrawAt.ab {H a b c ws cs r t} (d : DrawAt H a b c ws cs r t) : b ≠ a := fun e => by
  have := d.hb
  rw [e, d.ha] at this; cases this
theorem DrawAt.ac {H a b c ws cs r t} (d : DrawAt H a b c ws cs r t) : c ≠ a := fun e => by
  have := d.hc
  rw [e, d.ha] at this; cases this
theorem drawK_rest (b c : Addr) (r t r' : Int) : putK (drawK b c r t) (.inr "rest") (.int r') = drawK b c r' t := by
  have h1 : ("wide" : Str) ≠ "rest" := by decide
  have h2 : ("cells" : Str) ≠ "rest" := by decide
  have h3 : ("turn" : Str) ≠ "rest" := by decide
  simp [putK, drawK, h1, h2, h3]
theorem drawK_turn (b c : Addr) (r t t' : Int) : putK (drawK b c r t) (.inr "turn") (.int t') = drawK b c r t' := by
  have h1 : ("wide" : Str) ≠ "turn" := by decide
  have h2 : ("cells" : Str) ≠ "turn" := by decide
  have h3 : ("rest" : Str) ≠ "turn" := by decide
  simp [putK, drawK, h1, h2, h3]
theorem drawK_len {b c : Addr} {r t : Int} : (drawK b c r t).length < sizeLine := by
  show (4 : Nat) < sizeLine
  rw [sizeLine_eq]; decide
/-- a table among those that are known -/
def isTb (T : List (Addr × Str)) (p : Addr) : Prop := ∃ q, (p, q) ∈ T
theorem tabs_law {T : List (Addr × Str)} {H H' : Hp} {M : Addr → Prop} (h : Tabs T H) (hm : ∀ p, isTb T p → M p) (k : ∀ a o, H a = some o → (M a ∨ ∃ p, o = .ext p) → H' a = some o) : Tabs T H' := fun p hp => by
  obtain ⟨ps, h1, h2, h3⟩ := h p hp
  refine ⟨ps, k _ _ h1 (.inl (hm p.1 ⟨p.2, hp⟩)), h2, fun pos cv e => ?_⟩
  obtain ⟨c, e1, e2⟩ := h3 pos cv e
  exact ⟨c, e1, k _ _ e2 (.inr ⟨_, rfl⟩)⟩
theorem tabs_mth {T : List (Addr × Str)} {H : Hp} (h : Tabs T H) {p : Addr} (hp : isTb T p) : H p ≠ none ∧ ∀ xs : List V ⊕ (Heap → Prop), H p ≠ some (match xs with | .inl ys => .tup ys | .inr p => .ext p) := by
  obtain ⟨q, hq⟩ := hp
  obtain ⟨ps, h1, _⟩ := h _ hq
  rw [h1]
  exact ⟨fun z => (nomatch z), fun x z => by cases x <;> cases z⟩
/-- something that is no table and nothing of the kit's own goes over into something else -/
theorem tabs_upd {T : List (Addr × Str)} {H : Hp} (h : Tabs T H) {a : Addr} {o u : HO} (e : H a = some o) (nt : ∀ ps, o ≠ .tbl ps) (ne : ∀ p, o ≠ .ext p) : Tabs T (upd H a u) := fun p hp => by
  obtain ⟨ps, h1, h2, h3⟩ := h p hp
  refine ⟨ps, by rw [upd_ne (fun z => nt ps (by rw [z, e] at h1; exact Option.some.inj h1))]; exact h1, h2, fun pos cv e' => ?_⟩
  obtain ⟨c, e1, e2⟩ := h3 pos cv e'
  exact ⟨c, e1, by rw [upd_ne (fun z => ne _ (by rw [z, e] at e2; exact Option.some.inj e2))]; exact e2⟩
theorem tabs_new {T : List (Addr × Str)} {H : Hp} (h : Tabs T H) {a : Addr} {u : HO} (e : H a = none) : Tabs T (upd H a u) := h.ext fun b o z => by rw [upd_ne (ne_of_none z e)]; exact z
/-- what else was there is there -/
def Frm (Ex : Addr → Prop) (H H' : Hp) : Prop := ∀ p o, ¬ Ex p → H p = some o → (∀ ps, o ≠ .tbl ps) → H' p = some o
/-- the blend: it changes the turn alone -/
def spBlend (T : List (Addr × Str)) : Sp := fun vs H Q _ => ∃ a b c ws cs r t, vs = [.ref a] ∧ DrawAt H a b c ws cs r t ∧ Tabs T H ∧ t.natAbs + 1 ≤ limT ∧ ∀ i H' t', t'.natAbs ≤ t.natAbs + 1 → DrawAt H' a b c ws cs r t' → Tabs T H' → (∀ p, H p ≠ none → H' p ≠ none) → Frm (fun p => p = a) H H' → Q (.int i) H'
/-- a draw: a number below the size -/
def spTake (T : List (Addr × Str)) : Sp := fun vs H Q _ => ∃ a b c ws cs r t n, vs = [.ref a, .int n] ∧ (0 < n ∧ n.natAbs.log2 < 9000) ∧ DrawAt H a b c ws cs r t ∧ Tabs T H ∧ ws.length ≤ sizeLine ∧ t.natAbs + 1 ≤ limT ∧
  ∀ i H' ws' cs' r' t', 0 ≤ i → i < n → t'.natAbs ≤ t.natAbs + 1 → DrawAt H' a b c ws' cs' r' t' → Tabs T H' → ws'.length ≤ sizeLine → (∀ p, H p ≠ none → H' p ≠ none) → Frm (fun p => p = a ∨ p = b) H H' → Q (.int i) H'

/-! ### the blend, over data: the dict of the draws is a token -/
def GB (T : List (Addr × Str)) (a b c : Addr) (ws cs : List Int) (r : Int) : Glob where
  ct := fun _ => none
  ec := fun _ => none
  tk := fun k => if k = 0 then some a else none
  M := fun p => p = a ∨ p = c ∨ isTb T p
  J := fun n H => (∃ t : Int, t.natAbs ≤ n ∧ H a = some (.dK (drawK b c r t))) ∧ H c = some (.lst (cs.map V.int)) ∧ Tabs T H
  jlaw := fun n H H' ⟨⟨t, h1, h⟩, h2, h3⟩ k => ⟨⟨t, h1, k a _ h (.inl (.inl rfl))⟩, k c _ h2 (.inl (.inr (.inl rfl))), tabs_law h3 (fun _ z => .inr (.inr z)) k⟩
  mth := fun n H p ⟨⟨t, _, h⟩, h2, h3⟩ e => by
    rcases e with e | e | e
    · rw [e, h]; exact ⟨fun z => (nomatch z), fun x z => by cases x <;> cases z⟩
    · rw [e, h2]; exact ⟨fun z => (nomatch z), fun x z => by cases x <;> cases z⟩
    · exact tabs_mth h3 e
section
variable {T : List (Addr × Str)} {a b c : Addr} {ws cs : List Int} {r : Int} {X : Cx} {O : XO}
theorem gb_tok {K : PySem.W.Frag} {S : Fz} {v : V} (h : Den (GB T a b c ws cs r) K S v (.tok 0)) : v = .ref a := by
  obtain ⟨p, e, q⟩ := h.tok_inv
  have : some a = some p := q
  cases this; exact e
def tk0 (ρ : EnvD) (i : Nat) : Prop := ρ[i]? = some (some (.imm (.tok 0)))
def fGbTurn (i : Nat) : FE := fun ρ Kc => tk0 ρ i ∧ ∀ j : Int, j.natAbs ≤ limT → Kc ρ (.int j)
theorem gb_turn (i : Nat) {x : Str} {np kp pos : Pos} {j} (hu : X.A.units + 1 < cLine) (hN : X.N[i]? = some x := by rfl) (hv : Vis X.env.scope x := by first | exact Or.inl rfl | exact Or.inr (Or.inl rfl) | exact Or.inr (Or.inr rfl))
    (hd : (x == ("__debug__" : Str)) = false := by decide) (hcd : (x == ("__classdict__" : Str)) = false := by decide) : PDe (GB T a b c ws cs r) X O (.Subscript (.Name x np) (.Constant (.str "turn") j kp) pos) .st true 0 (fGbTurn i) := by
  refine ⟨_, pe_ix (ix_dict hu) (pe_var hN hv hd hcd) pe_str (by exact fun _ _ => rfl), fun B S H σ ρ Kc Q I hb hf hq => ?_⟩
  obtain ⟨e, h⟩ := hf
  obtain ⟨v, e1, e2⟩ := I.im i _ e
  obtain rfl := gb_tok e2
  obtain ⟨⟨t, h1, ht⟩, _⟩ := I.j
  exact ⟨_, e1, a, .int t, rfl, DGet.k (k := .inr "turn") ht, hq _ H S ρ _ I (Sub.refl _) (fun _ => rfl) (Den.int t) (h t (Nat.le_trans h1 (by omega)))⟩
/-- the cells, walked -/
theorem gb_cells (i : Nat) {tg : Expr} {x : Str} {np kp pos : Pos} {j} (hu : X.A.units + 1 < cLine) (hN : X.N[i]? = some x := by rfl) (hv : Vis X.env.scope x := by first | exact Or.inl rfl | exact Or.inr (Or.inl rfl) | exact Or.inr (Or.inr rfl))
    (hd : (x == ("__debug__" : Str)) = false := by decide) (hcd : (x == ("__classdict__" : Str)) = false := by decide) : PDi (GB T a b c ws cs r) X O tg (.Subscript (.Name x np) (.Constant (.str "cells") j kp) pos) 0 (fun ρ Kc => tk0 ρ i ∧ Kc ρ (cs.map D.int)) := by
  refine ⟨_, pi_any (pe_ix (ix_dict hu) (pe_var hN hv hd hcd) pe_str (by exact fun _ _ => rfl)), fun B S H σ ρ Kc Q I hb hf hq => ?_⟩
  obtain ⟨e, h⟩ := hf
  obtain ⟨v, e1, e2⟩ := I.im i _ e
  obtain rfl := gb_tok e2
  obtain ⟨⟨t, h1, ht⟩, hc, _⟩ := I.j
  refine ⟨_, e1, a, .ref c, rfl, DGet.k (k := .inr "cells") ht, .inl ⟨c, rfl, ⟨_, SqL.of hc⟩, hq _ H S ρ _ I (Sub.refl _) ?_ h⟩⟩
  refine ⟨fun k i S2 H m l hj hi => ?_, fun k S2 H m l hj => ⟨_, SqL.of hj.2.1, by simp⟩, fun O k i B S2 H σ ρ x H' m I hi y => ?_⟩
  · refine ⟨_, .int cs[i]!, SqL.of hj.2.1, ?_⟩
    have hi' : i < cs.length := by simpa using hi
    simp [hi']
  · obtain ⟨rfl, y⟩ := y
    have hi' : i < cs.length := by simpa using hi
    have := y _ (SqL.of I.j.2.1)
    simp [hi'] at this
    subst this
    exact ⟨S2, .int cs[i], by simp [hi'], I, Sub.refl _, Den.int _⟩
/-- the turn, counted -/
def fGbTick (i : Nat) : FS := fun Ed ρ => tk0 ρ i ∧ Ed.nx ρ
theorem gb_tick (i : Nat) {rk : Bool} {x : Str} {np p1 p2 p3 p4 p5 p6 p7 : Pos} {j j2 j3} (hu : X.A.units + 1 < cLine) (hx0 : ∀ x, ¬ O.xd x) (hN : X.N[i]? = some x := by rfl) (hv : Vis X.env.scope x := by first | exact Or.inl rfl | exact Or.inr (Or.inl rfl) | exact Or.inr (Or.inr rfl))
    {pos : Pos} (hs' : swapsWith (.BinOp (.Subscript (.Name x np) (.Constant (.str "turn") j p1) p2) .Add (.Constant (.int 1) j2 p3) p4) (some (.Subscript (.Name x p5) (.Constant (.str "turn") j3 p6) p7)) pos.line X.env = pure false := by rfl)
    (hd : (x == ("__debug__" : Str)) = false := by decide) (hcd : (x == ("__classdict__" : Str)) = false := by decide) :
    PDs (GB T a b c ws cs r) X O rk (.Assign [.Subscript (.Name x p5) (.Constant (.str "turn") j3 p6) p7] (.BinOp (.Subscript (.Name x np) (.Constant (.str "turn") j p1) p2) .Add (.Constant (.int 1) j2 p3) p4) pos) 1 (fGbTick i) := by
  refine ⟨_, ps_dput hu (pe_var hN hv hd hcd) pe_str (pe_op op_add (pe_ix (ix_dict hu) (pe_var hN hv hd hcd) pe_str (by exact fun _ _ => rfl)) pe_int) hs', fun B S H σ ρ Ed D I hb hf E => ?_⟩
  obtain ⟨e, h⟩ := hf
  obtain ⟨v, e1, e2⟩ := I.im i _ e
  obtain rfl := gb_tok e2
  obtain ⟨⟨t, h1, ht⟩, hc, hT⟩ := I.j
  refine ⟨_, e1, a, .int t, rfl, DGet.k (k := .inr "turn") ht, t, 1, rfl, rfl, _, e1, a, _, rfl, DPut.k (k := .inr "turn") ht drawK_len, ?_⟩
  rw [drawK_turn]
  have ne : c ≠ a := fun z => by rw [z, ht] at hc; cases hc
  have hl : (⟨S.h, S.T + 1⟩ : Fz).T ≤ S.T + 1 := Nat.le_refl _
  have sub : Sub 1 S ⟨S.h, S.T + 1⟩ := ⟨fun _ _ _ z => z, fun _ _ _ _ z => z, hl⟩
  have J : Sta (GB T a b c ws cs r) X.K (Bs.at H S) ⟨S.h, S.T + 1⟩ (upd H a (.dK (drawK b c r (t + 1)))) := by
    refine ⟨fun p o z => ?_, I.sm, ⟨⟨t + 1, by show (t + 1).natAbs ≤ S.T + 1; omega, upd_same⟩, by rw [upd_ne ne]; exact hc, tabs_upd hT ht (fun _ z => nomatch z) (fun _ z => nomatch z)⟩, fun p z => ?_, fun p z _ => .inl z, fun p o z m _ => ?_⟩
    · have hp : p ≠ a := fun y => by rw [y, I.sm a (.inl rfl)] at z; cases z
      rw [upd_ne hp]; exact I.le p o z
    · by_cases hp : p = a
      · rw [hp, upd_same]; exact fun z => nomatch z
      · rw [upd_ne hp]; exact z
    · rw [upd_ne fun y => m (.inl y)]; exact .inl z
  exact E.nx _ _ _ _ (I.call J (.inr hx0) sub) sub h
end
def mBlend : Spc := { ar := 1, pre := fun ds => ds = [.tok 0], post := fun _ d => ∃ i : Int, d = .int i, cost := 1 }
/-- the blend, as the draw needs it -/
theorem blend_of {T : List (Addr × Str)} {P : Program} {w : World} {K : PySem.W.Frag} {mg : Str → Option Value} {base : Heap} {k : Nat} {f : Addr} {fd : FuncData} {ps : List Str} (hl : ps.length = 1)
    (F : ∀ a b c ws cs r, FnG P w K mg base k f fd ps (spD (GB T a b c ws cs r) K false ps.length mBlend)) : FnG P w K mg base k f fd ps (spBlend T) := by
  refine ⟨fun vs H Q E ⟨a, b, c, ws, cs, r, t, e, _⟩ => by rw [e, hl]; rfl, fun A fr s H args us vs Q E hr g he hb hv ⟨a, b, c, ws, cs, r, t, e, d, hT, ht, hq⟩ => (F a b c ws cs r).run A fr s H args us vs Q E hr g he hb hv ?_⟩
  subst e
  have st : Sta (GB T a b c ws cs r) K (Bs.at H ⟨fun _ => none, t.natAbs⟩) ⟨fun _ => none, t.natAbs⟩ H := ⟨(fun _ _ z => nomatch z), (fun _ _ => rfl), ⟨⟨t, Nat.le_refl _, d.ha⟩, d.hc, hT⟩, fun _ z => z, fun _ z _ => .inl z, fun _ _ z _ _ => .inl z⟩
  refine ⟨⟨fun _ => none, t.natAbs⟩, [.tok 0], by rw [hl]; rfl, st, ht, .cons (.tok rfl) .nil, rfl, fun v H' S' dd J m rr ⟨i, ei⟩ => ?_, fun _ _ _ _ _ _ _ _ _ _ z => z.elim⟩
  subst ei
  obtain rfl := Den.int_inv rr
  obtain ⟨⟨t', h1, h2⟩, h3, h4⟩ := J.j
  refine hq i H' t' (Nat.le_trans h1 m.lo) ⟨h2, ?_, h3⟩ h4 J.dom fun p o hp z tb => ?_
  · by_cases e : b = c
    · have hb := d.hb
      rw [e, d.hc] at hb
      rw [e, h3, Option.some.inj hb]
    · exact (J.kept b _ d.hb (fun z => z.elim (fun z => d.ab z) fun z => z.elim (fun z => e z) fun ⟨q, hq⟩ => by
        obtain ⟨ps, z, _⟩ := hT _ hq
        have z : H b = some (.tbl ps) := z
        rw [d.hb] at z; cases z) fun _ z => nomatch z).eq rfl
  · by_cases e : p = c
    · subst e
      rw [d.hc] at z; cases z; exact h3
    · exact (J.kept p o z (fun y => y.elim hp fun y => y.elim e fun ⟨q, hq⟩ => by
        obtain ⟨ps, y, _⟩ := hT _ hq
        have y : H p = some (.tbl ps) := y
        rw [z] at y
        exact tb ps (Option.some.inj y)) tb).eq rfl

/-! ### the draw -/
abbrev tSub (k : Str) : TE := tOp rIxD (tVar 0) (tC (.str k))
def tTake (T : List (Addr × Str)) (K : PySem.W.Frag) (E : L2.St → XK) : TS := tSeq (tIfS (tTest (tOp rEq (tSub "rest") (tC (.int 0))))
    (sDPut (tVar 0) (tC (.str "rest")) (tIf (tTest (tOp (rNeD K) (tSub "wide") (tLst tNil))) (tBM K "list" rPopAt (tSub "wide") (tCons (tC (.int 0)) tNil)) (tCallSD (spBlend T) [] E (tCons (tVar 0) tNil)))) tNext)
  (tSeq (tAsg (tOp (rI (fun _ j => 0 < j) fun i j => .int (i % j)) (tCB (fun xs H Q => (∃ i, xs = [V.int i] ∧ Q (.int i) H) ∨ ∃ k, xs = [V.bl k] ∧ Q (.int (if k then 1 else 0)) H) (tCons (tSub "rest") tNil)) (tVar 1)) (gName 2))
    (tSeq (sDPut (tVar 0) (tC (.str "rest")) (tOp (rI CDivW fun i j => .int (i / j)) (tSub "rest") (tVar 1))) (tRet (tVar 2))))
theorem take_tail {T : List (Addr × Str)} {K : PySem.W.Frag} {E : L2.St → XK} {a b c : Addr} {ws cs : List Int} {r t n : Int} {H : Hp} {Q : VK} {D : Ends} (d : DrawAt H a b c ws cs r t) (hT : Tabs T H) (hn : 0 < n ∧ n.natAbs.log2 < 9000)
    (hq : ∀ i H' r', 0 ≤ i → i < n → DrawAt H' a b c ws cs r' t → Tabs T H' → (∀ p, H p ≠ none → H' p ≠ none) → Frm (fun p => p = a) H H' → Q (.int i) H') :
    (tSeq (tAsg (tOp (rI (fun _ j => 0 < j) fun i j => .int (i % j)) (tCB (fun xs H Q => (∃ i, xs = [V.int i] ∧ Q (.int i) H) ∨ ∃ k, xs = [V.bl k] ∧ Q (.int (if k then 1 else 0)) H) (tCons (tSub "rest") tNil)) (tVar 1)) (gName 2))
    (tSeq (sDPut (tVar 0) (tC (.str "rest")) (tOp (rI CDivW fun i j => .int (i / j)) (tSub "rest") (tVar 1))) (tRet (tVar 2)))) { D with rt := Q } [some (.ref a), some (.int n), none] H := by
  refine ⟨_, rfl, a, .int r, rfl, DGet.k (k := .inr "rest") d.ha, .inl ⟨r, rfl, _, rfl, r, n, rfl, rfl, hn.1, ?_⟩⟩
  refine ⟨_, rfl, a, .int r, rfl, DGet.k (k := .inr "rest") d.ha, _, rfl, r, n, rfl, rfl, hn, _, rfl, a, _, rfl, DPut.k (k := .inr "rest") d.ha drawK_len, _, rfl, ?_⟩
  rw [drawK_rest]
  refine hq _ _ (r / n) (Int.emod_nonneg _ (by omega)) (Int.emod_lt_of_pos _ hn.1) ⟨upd_same, by rw [upd_ne d.ab]; exact d.hb, by rw [upd_ne d.ac]; exact d.hc⟩ (tabs_upd hT d.ha (fun _ z => nomatch z) (fun _ z => nomatch z)) (fun p hp => ?_) fun p o hp z _ => by rw [upd_ne hp]; exact z
  by_cases e : p = a
  · rw [e, upd_same]; exact fun z => nomatch z
  · rw [upd_ne e]; exact hp
theorem dpInts {K : PySem.W.Frag} {H : Hp} : ∀ xs : List Int, DpAll K H (xs.map V.int) (xs.map PyData.int)
  | [] => .nil
  | x :: xs => .cons (.int x) (dpInts xs)
theorem take_reads {T : List (Addr × Str)} {K : PySem.W.Frag} {E : L2.St → XK} {vs : List V} {H : Hp} {Q : VK} {E' : XK} {D : Ends} (h : spTake T vs H Q E') : tTake T K E { D with rt := Q } (L2.start ["_law_draw", "_law_size", "_law_found"] vs) H := by
  obtain ⟨a, b, c, ws, cs, r, t, n, rfl, hn, d, hT, hw, ht, hq⟩ := h
  refine ⟨_, rfl, a, .int r, rfl, DGet.k (k := .inr "rest") d.ha, rfl, _, rfl, ?_⟩
  by_cases hr : (V.int r = V.int 0)
  · dsimp only
    rw [if_pos (decide_eq_true hr)]
    refine ⟨_, rfl, a, .ref b, rfl, DGet.k (k := .inr "wide") d.ha, Nat.zero_le _, fun p hp => ?_⟩
    have pa : a ≠ p := fun z => by rw [← z, d.ha] at hp; cases hp
    have pb : b ≠ p := fun z => by rw [← z, d.hb] at hp; cases hp
    have pc : c ≠ p := fun z => by rw [← z, d.hc] at hp; cases hp
    have d1 : DrawAt (upd H p (.lst [])) a b c ws cs r t := ⟨by rw [upd_ne pa]; exact d.ha, by rw [upd_ne pb]; exact d.hb, by rw [upd_ne pc]; exact d.hc⟩
    have hT1 : Tabs T (upd H p (.lst [])) := tabs_new hT hp
    have there : ∀ q, H q ≠ none → (upd H p (.lst [])) q ≠ none := fun q hq => by rw [upd_ne fun z => hq (by rw [z]; exact hp)]; exact hq
    have fr1 : ∀ q o, H q = some o → (upd H p (.lst [])) q = some o := fun q o hq => by rw [upd_ne fun z => by rw [z, hp] at hq; cases hq]; exact hq
    refine ⟨.list (ws.map PyData.int), .list [], .lst (SqL.of d1.hb) (dpInts ws), .lst (SqL.of upd_same) .nil, ?_, by decide, !(PyData.eqv (.list (ws.map PyData.int)) (.list [])), rfl, ?_⟩
    · have h1 : ∀ l : List Int, PyData.canLayAll0 (l.map PyData.int) = true := fun l => by
        induction l with
        | nil => simp [PyData.canLayAll0]
        | cons x l ih => simp [PyData.canLayAll0, PyData.canLay0, ih]
      have h2 : ∀ l : List Int, PyData.depthAll (l.map PyData.int) = 0 := fun l => by
        induction l with
        | nil => simp [PyData.depthAll]
        | cons x l ih => simp [PyData.depthAll, PyData.depth, ih]
      unfold SeqAt.shaped
      simp [PyData.canLay0, PyData.depth, h1, h2]
    · cases ws with
      | nil =>
        dsimp only
        rw [if_neg (by simp [PyData.eqv, PyData.eqvAll])]
        refine ⟨_, rfl, a, b, c, [], cs, r, t, rfl, d1, hT1, ht, fun i H' t' h1 d2 hT2 dom fr => ?_⟩
        refine ⟨_, rfl, a, _, rfl, DPut.k (k := .inr "rest") d2.ha drawK_len, ?_⟩
        rw [drawK_rest]
        have d3 : DrawAt (upd H' a (.dK (drawK b c i t'))) a b c [] cs i t' := ⟨upd_same, by rw [upd_ne d2.ab]; exact d2.hb, by rw [upd_ne d2.ac]; exact d2.hc⟩
        refine take_tail (K := K) (E := E) d3 (tabs_upd hT2 d2.ha (fun _ z => nomatch z) (fun _ z => nomatch z)) hn fun i H'' r' h2 h3 d4 hT4 dom2 fr2 => hq i H'' [] cs r' t' h2 h3 h1 d4 hT4 (Nat.zero_le _) (fun q hq => dom2 q ?_) fun q o hx z tb => fr2 q o (fun z => hx (.inl z)) ?_ tb
        · by_cases e : q = a
          · rw [e, upd_same]; exact fun z => nomatch z
          · rw [upd_ne e]; exact dom q (there q hq)
        · rw [upd_ne fun z => hx (.inl z)]
          exact fr q o (fun z => hx (.inl z)) (fr1 q o z) tb
      | cons x ws =>
        dsimp only
        rw [if_pos (by simp [PyData.eqv, PyData.eqvAll])]
        refine ⟨_, rfl, a, .ref b, rfl, DGet.k (k := .inr "wide") d1.ha, .inl ⟨rfl, _, SqL.of d1.hb⟩, b, _, 0, 0, .int x, rfl, rfl, d1.hb, by decide, by decide, ?_, rfl, ?_⟩
        · exact PySem.seqIndex_of (by decide : (0 : Int) ≤ 0) (by simp)
        have ha2 : (upd (upd H p (.lst [])) b (.lst (((x :: ws).map V.int).eraseIdx 0))) a = some (.dK (drawK b c r t)) := by rw [upd_ne d.ab.symm]; exact d1.ha
        refine ⟨_, rfl, a, _, rfl, DPut.k (k := .inr "rest") ha2 drawK_len, ?_⟩
        rw [drawK_rest]
        have hc2 : ∃ cs' : List Int, (upd (upd (upd H p (.lst [])) b (.lst (((x :: ws).map V.int).eraseIdx 0))) a (.dK (drawK b c x t))) c = some (.lst (cs'.map V.int)) := by
          rw [upd_ne d.ac]
          by_cases e : c = b
          · rw [e, upd_same]; exact ⟨ws, rfl⟩
          · rw [upd_ne e]; exact ⟨cs, d1.hc⟩
        obtain ⟨cs', hc2⟩ := hc2
        have d3 : DrawAt (upd (upd (upd H p (.lst [])) b (.lst (((x :: ws).map V.int).eraseIdx 0))) a (.dK (drawK b c x t))) a b c ws cs' x t :=
          ⟨upd_same, by rw [upd_ne d.ab, upd_same]; rfl, hc2⟩
        refine take_tail (K := K) (E := E) d3 (tabs_upd (tabs_upd hT1 d1.hb (fun _ z => nomatch z) (fun _ z => nomatch z)) ha2 (fun _ z => nomatch z) (fun _ z => nomatch z)) hn fun i H'' r' h2 h3 d4 hT4 dom2 fr2 => hq i H'' ws cs' r' t h2 h3 (by omega) d4 hT4 (by simp at hw; omega) (fun q hq => dom2 q ?_) fun q o hx z tb => fr2 q o (fun z => hx (.inl z)) ?_ tb
        · by_cases e : q = a
          · rw [e, upd_same]; exact fun z => nomatch z
          · rw [upd_ne e]
            by_cases e2 : q = b
            · rw [e2, upd_same]; exact fun z => nomatch z
            · rw [upd_ne e2]; exact there q hq
        · rw [upd_ne fun z => hx (.inl z), upd_ne fun z => hx (.inr z)]
          exact fr1 q o z
  · dsimp only
    rw [if_neg (by simpa using hr)]
    exact take_tail (K := K) (E := E) d hT hn fun i H' r' h1 h2 d2 hT2 dom fr => hq i H' ws cs r' t h1 h2 (by omega) d2 hT2 hw dom fun q o hx => fr q o fun z => hx (.inl z)

def Fz.noTbl (S : Fz) : Hp := fun p => match S p with | some (.tbl _) => none | x => x
/-! ### the whole text's memory: the draws -/
def GD (T : List (Addr × Str)) (ct : Nat → Option (Addr × List Str)) (ec : Nat → Option (Addr × Option Str)) (a b c : Addr) : Glob where
  ct := ct
  ec := ec
  tk := fun k => if k = 0 then some a else none
  M := fun p => p = a ∨ p = b ∨ p = c ∨ isTb T p
  J := fun n H => (∃ ws cs r t, DrawAt H a b c ws cs r t ∧ ws.length ≤ sizeLine ∧ t.natAbs ≤ n) ∧ Tabs T H
  jlaw := fun n H H' ⟨⟨ws, cs, r, t, d, h1, h2⟩, h3⟩ k => ⟨⟨ws, cs, r, t, ⟨k a _ d.ha (.inl (.inl rfl)), k b _ d.hb (.inl (.inr (.inl rfl))), k c _ d.hc (.inl (.inr (.inr (.inl rfl))))⟩, h1, h2⟩, tabs_law h3 (fun _ z => .inr (.inr (.inr z))) k⟩
  mth := fun n H p ⟨⟨ws, cs, r, t, d, _⟩, h3⟩ e => by
    rcases e with e | e | e | e
    · rw [e, d.ha]; exact ⟨fun z => (nomatch z), fun x z => by cases x <;> cases z⟩
    · rw [e, d.hb]; exact ⟨fun z => (nomatch z), fun x z => by cases x <;> cases z⟩
    · rw [e, d.hc]; exact ⟨fun z => (nomatch z), fun x z => by cases x <;> cases z⟩
    · exact tabs_mth h3 e
def mTake : Spc := { ar := 2, pre := fun ds => ∃ n : Int, ds = [.tok 0, .int n] ∧ 0 < n ∧ n.natAbs.log2 < 9000, post := fun ds d => ∃ n i : Int, ds = [.tok 0, .int n] ∧ d = .int i ∧ 0 ≤ i ∧ i < n, cost := 1 }
theorem take_of {T : List (Addr × Str)} {ct ec} {a b c : Addr} {P : Program} {w : World} {K : PySem.W.Frag} {mg : Str → Option Value} {base : Heap} {k : Nat} {f : Addr} {fd : FuncData} {ps : List Str} (hl : ps.length = 2)
    (F : FnG P w K mg base k f fd ps (spTake T)) : FnG P w K mg base k f fd ps (spD (GD T ct ec a b c) K false ps.length mTake) := by
  refine FnG.imp F fun vs H Q E ⟨S, ds, hv, st, hb, r, ⟨n, e, h1, h2⟩, hq, _⟩ => ?_
  subst e
  cases r with
  | cons r1 r2 =>
    cases r2 with
    | cons r2 r3 =>
      cases r3
      obtain ⟨p, rfl, hp⟩ := r1.tok_inv
      have hp' : some a = some p := hp
      cases hp'
      obtain rfl := Den.int_inv r2
      obtain ⟨⟨ws, cs, r, t, d, hw, ht⟩, hT⟩ := st.j
      have hb' : S.T + 1 ≤ limT := hb
      refine ⟨a, b, c, ws, cs, r, t, n, rfl, ⟨h1, h2⟩, d, hT, hw, by omega, fun i H' ws' cs' r' t' i0 i1 i2 d' hT' hw' dom fr => ?_⟩
      have nt : ∀ (p : Addr) (o : HO), S.noTbl p = some o ↔ S p = some o ∧ ∀ ps, o ≠ .tbl ps := fun p o => by
        show (match S p with | some (.tbl _) => none | x => x) = some o ↔ _
        split
        · rename_i e; rw [e]
          constructor
          · intro z; cases z
          · rintro ⟨z, q⟩; cases z; exact absurd rfl (q _)
        · rename_i e
          constructor
          · intro z; exact ⟨z, fun ps y => e ps (by rw [z, y])⟩
          · intro z; exact z.1
      have sub : Sub 1 S ⟨S.noTbl, S.T + 1⟩ := ⟨fun p u hd z => z.elim (fun z => .inl ((nt p u).mpr ⟨z, fun _ e => by rw [e] at hd; cases hd⟩)) fun ⟨o, z⟩ => .inr ⟨o, (nt p _).mpr ⟨z, fun _ e => nomatch e⟩⟩,
        fun p u _ hf z => (nt p u).mpr ⟨z, fun _ e => by rw [e] at hf; cases hf⟩, Nat.le_refl _⟩
      refine hq (.int i) H' ⟨S.noTbl, S.T + 1⟩ (.int i) ⟨fun p o z => ?_, fun p m => ?_, ⟨⟨ws', cs', r', t', d', hw', by show t'.natAbs ≤ S.T + 1; omega⟩, hT'⟩, dom, fun p z ntp => ?_, fun p o z m tb => ?_⟩ sub (Den.int i) ⟨n, i, rfl, rfl, i0, i1⟩
      · obtain ⟨z, q⟩ := (nt p o).mp z
        have hp : ¬ (p = a ∨ p = b) := fun y => by rw [st.sm p (y.elim .inl fun y => .inr (.inl y))] at z; cases z
        exact fr p o hp (st.le p o z) q
      · show S.noTbl p = none
        unfold Fz.noTbl
        rw [st.sm p m]
      · refine st.sn p (fun y => z ?_) fun xs y => ntp xs ?_
        · show S.noTbl p = none
          unfold Fz.noTbl
          rw [y]
        · show S.noTbl p = some (txo xs)
          unfold Fz.noTbl
          rw [y]
          cases xs <;> rfl
      · exact .inl (fr p o (fun y => m (y.elim .inl fun y => .inr (.inl y))) z tb)
end WL

/-! WQ: a law's def, its end. -/
namespace WL
open PySem PySem.Spec PyProof.Rows L2 LamX
/-- nothing is shared but the tables of code objects -/
def G0 (T : List (Addr × Str)) : Glob where
  ct := fun _ => none
  ec := fun _ => none
  tk := fun _ => none
  M := isTb T
  J := fun _ H => Tabs T H
  jlaw := fun _ _ _ h k => tabs_law h (fun _ z => z) k
  mth := fun _ _ _ h z => tabs_mth h z
def drawD (ws cs : List Int) : D := .dct [(.str "wide", .lst (ws.map D.int)), (.str "cells", .lst (cs.map D.int)), (.str "rest", .int 0), (.str "turn", .int 0)]
def mBegun : Spc := { ar := 1, pre := fun ds => ∃ ns : List Int, ds = [.wls (ns.map D.int)] ∧ ns.length ≤ 63, post := fun _ d => ∃ ws cs : List Int, d = drawD ws cs ∧ ws.length ≤ 63 }
/-- a reading whatever the text's memory is -/
def sCan (X : Cx) (O : XO) (rk : Bool) (n : Nat) (g : FS) (Good : Glob → Prop) : TS := fun D σ H => ∃ (G : Glob) (B : Bs) (S : Fz) (ρ : EnvD) (Ed : EndsD), Good G ∧ Eok G X.K O B S H σ ρ ∧ S.T + n ≤ limT ∧ g Ed ρ ∧ EOk G X.K O rk n B S Ed D
theorem can_pss {X : Cx} {O : XO} {rk : Bool} {st : List Stmt} {n : Nat} {g : FS} {Good : Glob → Prop} (h : ∀ G, Good G → PDb G X O rk st n g) : PSs X st (sCan X O rk n g Good) :=
  ⟨fun pins s σ H D I z => by
    obtain ⟨G, B, S, ρ, Ed, hG, J, hb, hg, E⟩ := z
    obtain ⟨t, pt, q⟩ := (h G hG).run
    exact pt.run pins s σ H D I (q B S H σ ρ Ed D J hb hg E)⟩
theorem den_ints {G : Glob} {K : PySem.W.Frag} {S : Fz} : ∀ ns : List Int, DenL G K S (ns.map V.int) (ns.map D.int)
  | [] => .nil
  | n :: ns => .cons (.int n) (den_ints ns)
theorem den_ints_inv {G : Glob} {K : PySem.W.Frag} {S : Fz} : ∀ {ns : List Int} {vs : List V}, DenL G K S vs (ns.map D.int) → vs = ns.map V.int
  | [], _, h => by cases h; rfl
  | n :: ns, _, h => by
    cases h with
    | cons r t => rw [den_ints_inv t, Den.int_inv r]; rfl
theorem key_str {k : Key} {x : Str} (h : D.str x = keyD k) : k = .inr x := by
  cases k <;> simp [keyD] at h; rw [h]
/-- what is an object known -/
def frzOnly (H : Hp) : Hp := fun q => match H q with | some (HO.frz o u) => some (HO.frz o u) | _ => none
/-- the dict of the draws, seen as memory -/
theorem draw_at {G : Glob} {K : PySem.W.Frag} {B : Bs} {S : Fz} {H : Hp} {a : Addr} {ws cs : List Int} (w : OwnAt G K S H a (.dct [(.str "wide", .lst (ws.map D.int)), (.str "cells", .lst (cs.map D.int)), (.str "rest", .int 0), (.str "turn", .int 0)])) (le : ∀ a o, S a = some o → H a = some o) :
    ∃ b c, DrawAt H a b c ws cs 0 0 := by
  rcases w with ⟨kvs, h, l⟩ | ⟨kvs, h, n, l⟩
  · cases l with
    | @cons p1 _ _ _ r1 l =>
      cases l with
      | @cons p2 _ _ _ r2 l =>
        cases l with
        | @cons p3 _ _ _ r3 l =>
          cases l with
          | @cons p4 _ _ _ r4 l =>
            cases l
            obtain ⟨b, ds, e1, h1, l1⟩ := r1.2.lst_inv
            obtain ⟨c, es, e2, h2, l2⟩ := r2.2.lst_inv
            have k1 := key_str r1.1
            have k2 := key_str r2.1
            have k3 := key_str r3.1
            have k4 := key_str r4.1
            have v3 := r3.2.int_inv
            have v4 := r4.2.int_inv
            obtain ⟨p1k, p1v⟩ := p1
            obtain ⟨p2k, p2v⟩ := p2
            obtain ⟨p3k, p3v⟩ := p3
            obtain ⟨p4k, p4v⟩ := p4
            simp only at k1 k2 k3 k4 e1 e2 v3 v4
            subst k1 k2 k3 k4 e1 e2 v3 v4
            exact ⟨b, c, h, by rw [le _ _ h1, den_ints_inv l1], by rw [le _ _ h2, den_ints_inv l2]⟩
  · cases l with
    | @cons p1 _ _ _ r1 l => have := r1.1; cases this
/-- nothing is told but the script and empty tables of code objects -/
structure OnlyT (T : List (Addr × Str)) (H : Hp) : Prop where
  at_ : ∀ b, H b = none ∨ (H b = some (.tbl #[]) ∧ isTb T b) ∨ ∃ o xs, H b = some (.frz o (.lst xs))
  tb : ∀ p ∈ T, H p.1 = some (.tbl #[])
/-- what is asked of the script -/
def spLaw (T : List (Addr × Str)) (K : PySem.W.Frag) : Sp := fun vs H Q _ => ∃ (a : Addr) (ns : List Int), vs = [.ref a] ∧ SqL K H a (ns.map V.int) ∧ OnlyT T H ∧ ns.length ≤ 63 ∧ ∀ H', Q (.bl true) H'
/-- the law's def: its first row begins the draws, the others are read over data -/
theorem law_DC {T : List (Addr × Str)} {P : Program} {w : World} {K : PySem.W.Frag} {mg : Str → Option Value} {base : Heap} {x qual : Str} {params : Arguments} {st : Stmt} {rest : List Stmt} {scope : Scope} {f : Addr} {fd : FuncData} {N : List Str} {k : Nat} {ct ec}
    (F : FunD K x qual params (st :: rest) scope [] [] f fd) (Sc : FnScope N ["_law_script"] scope) (hN : 2 ≤ N.length)
    (h1 : ∀ (cdv : Value) (A : Around) (outer : List Env) (s : Shared) (H : Hp) (E : XK), Room k (A.deeper (envOfC qual scope s.heap.objs.size f cdv)) → A.guards = some [] →
      Takes (cxOf (L2.CX P w) P w K mg base N qual scope f cdv A outer s H E) (defO E (fun _ => False) 0).W →
      PDs (G0 T) (cxOf (L2.CX P w) P w K mg base N qual scope f cdv A outer s H E) (defO E (fun _ => False) 0) false st (0 + 0 + mBegun.cost) (fSetO 1 (fCall (fun _ => False) mBegun [] (fCons (fVar 0) fNil))))
    (h2 : ∀ (cdv : Value), fd.code = cdv → ∀ (A : Around) (outer : List Env) (s : Shared) (H : Hp) (E : XK) (ns : List Int), ns.length ≤ 63 → Room k (A.deeper (envOfC qual scope s.heap.objs.size f cdv)) → A.guards = some [] →
      Takes (cxOf (L2.CX P w) P w K mg base N qual scope f cdv A outer s H E) (defO E (fun _ => False) 0).W →
      ∃ n g, (∀ a b c, PDb (GD T ct ec a b c) (cxOf (L2.CX P w) P w K mg base N qual scope f cdv A outer s H E) (defO E (fun _ => False) 0) false rest n g) ∧ n ≤ limT ∧
        g (endsD false fun d => d = .bl true) (some (.imm (.wls (ns.map D.int))) :: some (.imm (.tok 0)) :: List.replicate (N.length - 2) none)) : FnG P w K mg base (k + 1) f fd ["_law_script"] (spLaw T K) := by
  refine FunD.okGC F Sc (fun vs H Q E h => ?_) (fun cdv hcd A outer s H vs Q E hr gd h => ?_)
  · obtain ⟨a, ns, e, _⟩ := h
    rw [e]; rfl
  · obtain ⟨a, ns, e, hS, hO, hl, hq⟩ := h
    subst e
    have tk : Takes (cxOf (L2.CX P w) P w K mg base N qual scope f cdv A outer s H E) (defO E (fun _ => False) 0).W := takes_of rfl rfl rfl rfl
    obtain ⟨t1, p1, q1⟩ := (h1 cdv A outer s H E hr gd tk).run
    obtain ⟨n, g, pb, hn, hg⟩ := h2 cdv hcd A outer s H E ns hl hr gd tk
    refine ⟨_, pss_cons p1 (can_pss (Good := fun G => ∃ a b c, G = GD T ct ec a b c) fun G ⟨a, b, c, e⟩ => by rw [e]; exact pb a b c), ?_⟩
    have scr : (∃ o, H a = some (.frz o (.lst (ns.map V.int)))) ∨ ∀ H, SqL K H a (ns.map V.int) := by
      rcases hS with (z | ⟨o, z⟩) | z
      · rcases hO.at_ a with y | ⟨y, _⟩ | ⟨o, xs, y⟩ <;> rw [y] at z <;> cases z
      · exact .inl ⟨o, z⟩
      · exact .inr fun _ => .inr z
    obtain ⟨N2, eN⟩ : ∃ m, N.length = m + 2 := ⟨N.length - 2, by omega⟩
    have eS : L2.start N [.ref a] = some (V.ref a) :: none :: List.replicate N2 none := by
      unfold L2.start
      rw [eN]
      show some (V.ref a) :: List.replicate (N2 + 1) none = _
      rw [List.replicate_succ]
    rw [eS]
    let S0 : Fz := ⟨frzOnly H, 0⟩
    have s0 : ∀ q o, S0 q = some o → H q = some o ∧ ∃ o' u, o = .frz o' u := fun q o z => by
      have z : frzOnly H q = some o := z
      unfold frzOnly at z
      split at z
      · rename_i e; cases z; exact ⟨e, _, _, rfl⟩
      · cases z
    have scr0 : (∃ o, S0 a = some (.frz o (.lst (ns.map V.int)))) ∨ ∀ H, SqL K H a (ns.map V.int) := scr.imp_left fun ⟨o, z⟩ => ⟨o, by
      show frzOnly H a = _
      unfold frzOnly
      rw [z]⟩
    have I0 : Eok (G0 T) K (defO E (fun _ => False) 0) (Bs.at H S0) S0 H (some (V.ref a) :: none :: List.replicate N2 none) (some (.imm (.wls (ns.map D.int))) :: none :: List.replicate N2 none) := by
      have no : ∀ (i : Nat) (y : WL.Slot), ((some (WL.Slot.imm (.wls (ns.map D.int))) :: none :: List.replicate N2 none) : EnvD)[i]? = some (some y) → i = 0 ∧ y = .imm (.wls (ns.map D.int)) := fun i y z => by
        cases i with
        | zero => simp at z; exact ⟨rfl, z.symm⟩
        | succ i =>
          cases i with
          | zero => simp at z
          | succ i =>
            simp [List.getElem?_replicate] at z
      refine ⟨⟨fun q o z => (s0 q o z).1, fun q ⟨r, hr⟩ => ?_, fun p hp => TabS.nil (hO.tb p hp), fun _ z => z, fun _ z _ => .inl z, fun _ _ z _ _ => .inl z⟩, .inr fun _ z => z, fun _ _ _ _ _ _ _ _ _ _ _ _ z => z.elim, fun i d z => ?_, fun i o z => ?_, fun i j a o o' z _ => ?_, fun j a o z => by simp at z, fun i j a o o' z _ => ?_, fun i j a o o' z _ => by simp at z, by simp, fun i c fs z => (by obtain ⟨_, e⟩ := no i _ z; cases e), fun _ z => nomatch z⟩
      · cases z : S0 q with
        | none => rfl
        | some o =>
          obtain ⟨z1, o', u, rfl⟩ := s0 q o z
          rw [hO.tb _ hr] at z1; cases z1
      · obtain ⟨rfl, e⟩ := no i _ z
        cases e
        exact ⟨_, rfl, .wls scr0 (by simp) fun i v d h1 h2 => paired_at (den_ints ns) i v d h1 h2⟩
      · obtain ⟨_, e⟩ := no i _ z; cases e
      · obtain ⟨_, e⟩ := no i _ z.1; cases e
      · obtain ⟨_, e⟩ := no i _ z.1; cases e
    refine q1 (Bs.at H S0) S0 H _ _ { nx := fun ρ => ∃ ws cs : List Int, ws.length ≤ 63 ∧ ρ = some (.imm (.wls (ns.map D.int))) :: some (.own (.dct [(.str "wide", .lst (ws.map D.int)), (.str "cells", .lst (cs.map D.int)), (.str "rest", .int 0), (.str "turn", .int 0)])) :: List.replicate N2 none, rt := fun _ => False } _ I0 (Nat.zero_le _) ?_ ⟨fun σ' H' S' ρ' I' m' h => ?_, fun _ _ _ _ _ _ _ _ z => z.elim, fun _ _ _ _ _ _ z => z.elim, fun _ _ _ _ _ _ z => z.elim, fun z => absurd rfl z⟩
    · refine ⟨_, rfl, rfl, ⟨ns, rfl, hl⟩, fun d ⟨ws, cs, e, hw⟩ => ?_, fun _ z => z.elim⟩
      subst e
      exact ⟨ws, cs, hw, rfl⟩
    · obtain ⟨ws, cs, hw, rfl⟩ := h
      obtain ⟨p, e1, w1⟩ := I'.ow 1 _ rfl
      obtain ⟨v0, e0, d0⟩ := I'.im 0 _ rfl
      obtain ⟨b, c, dr⟩ := draw_at (B := Bs.at H S0) w1.at_ I'.le
      obtain ⟨sa, vs0, ev0, up, scr', dl⟩ := d0.wls_inv
      have hv := den_ints_inv dl
      subst hv ev0
      have scr2 : (∃ o, S' sa = some (.frz o (.lst (ns.map V.int)))) ∨ ∀ H, SqL K H sa (ns.map V.int) := scr'
      have hT' : Tabs T H' := I'.j
      have hs2 : ∀ q, q = p ∨ q = b ∨ q = c ∨ isTb T q → ∀ o u, H' q = some (.frz o u) → False := fun q hq o u z => by
        rcases hq with e | e | e | ⟨r, hr⟩
        · rw [e, dr.ha] at z; cases z
        · rw [e, dr.hb] at z; cases z
        · rw [e, dr.hc] at z; cases z
        · obtain ⟨ps, y, _⟩ := hT' _ hr
          have y : H' q = some (.tbl ps) := y
          rw [y] at z; cases z
      have lenS : σ'.length = N2 + 2 := by rw [I'.len]; simp
      let S2 : Fz := ⟨frzOnly H', 0⟩
      have s2 : ∀ q o, S2 q = some o → H' q = some o ∧ ∃ o' u, o = .frz o' u := fun q o z => by
        have z : frzOnly H' q = some o := z
        unfold frzOnly at z
        split at z
        · rename_i e; cases z; exact ⟨e, _, _, rfl⟩
        · cases z
      have st : Sta (GD T ct ec p b c) K (Bs.at H' S2) S2 H' := by
        refine ⟨fun q o z => (s2 q o z).1, fun q m => ?_, ⟨⟨ws, cs, 0, 0, dr, by rw [sizeLine_eq]; omega, Nat.le_refl _⟩, hT'⟩, fun _ z => z, fun _ z _ => .inl z, fun _ _ z _ _ => .inl z⟩
        cases z : S2 q with
        | none => rfl
        | some o =>
          obtain ⟨z1, o', u, rfl⟩ := s2 q o z
          exact (hs2 q m o' u z1).elim
      have scr3 : (∃ o, S2 sa = some (.frz o (.lst (ns.map V.int)))) ∨ ∀ H, SqL K H sa (ns.map V.int) := scr2.imp_left fun ⟨o, z⟩ => ⟨o, by
        show frzOnly H' sa = _
        unfold frzOnly
        rw [I'.le _ _ z]⟩
      have no : ∀ (i : Nat) (y : WL.Slot), ((some (WL.Slot.imm (.wls (ns.map D.int))) :: some (.imm (.tok 0)) :: List.replicate N2 none) : EnvD)[i]? = some (some y) → (i = 0 ∧ y = .imm (.wls (ns.map D.int))) ∨ (i = 1 ∧ y = .imm (.tok 0)) := fun i y z => by
        cases i with
        | zero => simp at z; exact .inl ⟨rfl, z.symm⟩
        | succ i =>
          cases i with
          | zero => simp at z; exact .inr ⟨rfl, z.symm⟩
          | succ i => simp [List.getElem?_replicate] at z
      refine ⟨GD T ct ec p b c, Bs.at H' S2, S2, some (.imm (.wls (ns.map D.int))) :: some (.imm (.tok 0)) :: List.replicate N2 none, endsD false fun d => d = .bl true, ⟨p, b, c, rfl⟩, ?_, by show 0 + n ≤ limT; omega, ?_, ?_⟩
      · refine ⟨st, .inr fun _ z => z, fun _ _ _ _ _ _ _ _ _ _ _ _ z => z.elim, fun i d z => ?_, fun i o z => ?_, fun i j a o o' z _ => ?_, fun j a o z => by simp at z, fun i j a o o' z _ => ?_, fun i j a o o' z _ => by simp at z, by rw [lenS]; simp, fun i c fs z => (by rcases no i _ z with ⟨_, e⟩ | ⟨_, e⟩ <;> cases e), fun _ z => nomatch z⟩
        · rcases no i _ z with ⟨rfl, e⟩ | ⟨rfl, e⟩
          · cases e
            exact ⟨_, e0, .wls scr3 (by simp) fun i v d h1 h2 => paired_at (den_ints ns) i v d h1 h2⟩
          · cases e
            exact ⟨_, e1, .tok rfl⟩
        · rcases no i _ z with ⟨_, e⟩ | ⟨_, e⟩ <;> cases e
        · rcases no i _ z.1 with ⟨_, e⟩ | ⟨_, e⟩ <;> cases e
        · rcases no i _ z.1 with ⟨_, e⟩ | ⟨_, e⟩ <;> cases e
      · rw [eN] at hg
        exact hg
      · refine ⟨fun σ' H' S' ρ' I' m' h => ?_, fun _ v H2 S2 d J m2 r hd => ?_, fun _ _ _ _ _ _ z => z.elim, fun _ _ _ _ _ _ z => z.elim, fun z => absurd rfl z⟩
        · obtain ⟨_, h⟩ := h; cases h
        · subst hd
          obtain rfl := Den.bl_inv r
          exact hq H2
theorem law_D {T : List (Addr × Str)} {P : Program} {w : World} {K : PySem.W.Frag} {mg : Str → Option Value} {base : Heap} {x qual : Str} {params : Arguments} {st : Stmt} {rest : List Stmt} {scope : Scope} {f : Addr} {fd : FuncData} {N : List Str} {k : Nat} {ct ec}
    (F : FunD K x qual params (st :: rest) scope [] [] f fd) (Sc : FnScope N ["_law_script"] scope) (hN : 2 ≤ N.length)
    (h1 : ∀ (cdv : Value) (A : Around) (outer : List Env) (s : Shared) (H : Hp) (E : XK), Room k (A.deeper (envOfC qual scope s.heap.objs.size f cdv)) → A.guards = some [] →
      Takes (cxOf (L2.CX P w) P w K mg base N qual scope f cdv A outer s H E) (defO E (fun _ => False) 0).W →
      PDs (G0 T) (cxOf (L2.CX P w) P w K mg base N qual scope f cdv A outer s H E) (defO E (fun _ => False) 0) false st (0 + 0 + mBegun.cost) (fSetO 1 (fCall (fun _ => False) mBegun [] (fCons (fVar 0) fNil))))
    (h2 : ∀ (cdv : Value) (A : Around) (outer : List Env) (s : Shared) (H : Hp) (E : XK) (ns : List Int), ns.length ≤ 63 → Room k (A.deeper (envOfC qual scope s.heap.objs.size f cdv)) → A.guards = some [] →
      Takes (cxOf (L2.CX P w) P w K mg base N qual scope f cdv A outer s H E) (defO E (fun _ => False) 0).W →
      ∃ n g, (∀ a b c, PDb (GD T ct ec a b c) (cxOf (L2.CX P w) P w K mg base N qual scope f cdv A outer s H E) (defO E (fun _ => False) 0) false rest n g) ∧ n ≤ limT ∧
        g (endsD false fun d => d = .bl true) (some (.imm (.wls (ns.map D.int))) :: some (.imm (.tok 0)) :: List.replicate (N.length - 2) none)) : FnG P w K mg base (k + 1) f fd ["_law_script"] (spLaw T K) :=
  law_DC F Sc hN h1 fun cdv _ => h2 cdv
end WL

/-! WR: from a law's promise (no repr under way) to its statement. -/
namespace WL
open PySem PySem.Spec PyProof.Rows L2
end WL

/-! WS: parallel assignments, helpers of walks and of pure proofs. -/
namespace WL
open PySem PySem.Spec PyProof.Rows L2
theorem u1 {k : Nat} {A : Around} (hr : Room k A) : A.units + 1 < cLine := by have := hr.un; omega
theorem u64 {k : Nat} {A : Around} (hr : Room k A) : A.units + 64 < cLine := by have := hr.un; omega
section
variable {G : Glob} {X : Cx} {O : XO} {rk : Bool} {a b c : Expr} {cc : Bool} {n : Nat} {fa : FA} {pos px py pz pt pt2 : Pos} {x y z : Str} {kt k2 : Nat}
def fPar (i j : Nat) (fa : FA) : FS := fun Ed ρ => fa ρ fun ρ1 ds => match ds with
  | [x, y] => Ed.nx ((ρ1.set i (some (.imm x))).set j (some (.imm y)))
  | _ => False
theorem s_par (i j : Nat) {kt k2} (ha : PDa G X O [a, b] cc n fa) (hN : X.N.Nodup) (hc : X.calm = true := by rfl) (hki : O.keep i = false := by rfl) (hkj : O.keep j = false := by rfl) (hi : X.N[i]? = some x := by rfl) (hj : X.N[j]? = some y := by rfl) (hij : i ≠ j := by decide)
    (hx : X.env.scope.names.lookup x = some .local := by rfl) (hy : X.env.scope.names.lookup y = some .local := by rfl)
    (hw : swappedStores [.Tuple [.Name x px, .Name y py] kt pt] (.Tuple [a, b] k2 pt2) X.env = pure (some [x, y]) := by rfl)
    (hs : swapsWithSole [.Tuple [.Name x px, .Name y py] kt pt] (.Tuple [a, b] k2 pt2) pos.line X.env = pure false := by rfl) :
    PDs G X O rk (.Assign [.Tuple [.Name x px, .Name y py] kt pt] (.Tuple [a, b] k2 pt2) pos) n (fPar i j fa) := by
  obtain ⟨t, pa, q⟩ := ha.run
  refine ⟨_, ps_par hc hN hi hj hij hx hy pa hw hs, fun B S H σ ρ Ed D I hb hf E => ?_⟩
  refine q B S H σ ρ _ _ I hb hf fun vs H1 S1 ρ1 ds I1 m1 c1 r1 h1 => ?_
  split at h1
  · cases r1 with
    | cons r1 r2 =>
      cases r2 with
      | cons r2 r3 =>
        cases r3
        exact ⟨_, _, rfl, E.nx _ _ _ _ ((I1.set hki r1).set hkj r2) m1 h1⟩
  · exact h1.elim
def fPar3 (i j l : Nat) (fa : FA) : FS := fun Ed ρ => fa ρ fun ρ1 ds => match ds with
  | [x, y, z] => Ed.nx (((ρ1.set i (some (.imm x))).set j (some (.imm y))).set l (some (.imm z)))
  | _ => False
end
/-! ### loops, over data alone -/
/-- an invariant of a walked list -/
theorem forL_inv {h : FG} {gb : FS} {Ed : EndsD} (W : EnvD → Prop) (hn : ∀ ρ, W ρ → Ed.nx ρ) : ∀ (xs : List D) (ρ : EnvD), W ρ →
    (∀ x, x ∈ xs → ∀ (ρ : EnvD) (nx : EnvD → Prop), W ρ → (∀ ρ', W ρ' → nx ρ') → h x ρ fun ρ1 => gb { nx := nx, ct := nx, bk := Ed.nx, rt := Ed.rt } ρ1) → forL h gb Ed xs ρ
  | [], ρ, w, _ => hn ρ w
  | x :: xs, ρ, w, hx => hx x (List.mem_cons_self ..) ρ _ w fun ρ' w' => forL_inv W hn xs ρ' w' fun y hy => hx y (List.mem_cons_of_mem _ hy)
/-- .. that tells how many rounds are behind -/
theorem forL_ix {h : FG} {gb : FS} {Ed : EndsD} (W : Nat → EnvD → Prop) : ∀ (xs : List D) (i : Nat) (ρ : EnvD), W i ρ → (∀ ρ, W (i + xs.length) ρ → Ed.nx ρ) →
    (∀ j x, xs[j]? = some x → ∀ (ρ : EnvD) (nx : EnvD → Prop), W (i + j) ρ → (∀ ρ', W (i + j + 1) ρ' → nx ρ') → h x ρ fun ρ1 => gb { nx := nx, ct := nx, bk := Ed.nx, rt := Ed.rt } ρ1) → forL h gb Ed xs ρ
  | [], i, ρ, w, hn, _ => hn ρ w
  | x :: xs, i, ρ, w, hn, hx => hx 0 x rfl ρ _ w fun ρ' w' => forL_ix W xs (i + 1) ρ' w' (fun ρ z => hn ρ (by rw [List.length_cons, Nat.add_comm xs.length 1, ← Nat.add_assoc]; exact z)) fun j y hy ρ nx w2 k => hx (j + 1) y (by simpa using hy) ρ nx (by rw [Nat.add_comm j 1, ← Nat.add_assoc]; exact w2) fun ρ' z => k ρ' (by rw [Nat.add_comm j 1, ← Nat.add_assoc] at z; exact z)
/-- a comprehension whose items come out as R tells -/
inductive Outs (R : D → Option D → Prop) : List D → List D → Prop
  | nil : Outs R [] []
  | put {x y xs ys} : R x (some y) → Outs R xs ys → Outs R (x :: xs) (y :: ys)
  | drop {x xs ys} : R x none → Outs R xs ys → Outs R (x :: xs) ys
theorem lcL_rel {h : FG} {ft : FT} {fe : FE} {P : List D → Prop} {ρ : EnvD} (R : D → Option D → Prop) : ∀ (xs acc : List D),
    (∀ x, x ∈ xs → ∀ Kp : Option D → Prop, (∀ o, R x o → Kp o) → h x ρ fun ρ1 => ft ρ1 fun ρ2 b => if b = true then fe ρ2 fun _ y => Kp (some y) else Kp none) → (∀ ys, Outs R xs ys → P (acc ++ ys)) → lcL h ft fe P xs acc ρ
  | [], acc, _, hp => by
    have := hp [] .nil
    rw [List.append_nil] at this
    exact this
  | x :: xs, acc, hx, hp => by
    have h1 := hx x (List.mem_cons_self ..) (fun o => match o with
      | some y => lcL h ft fe P xs (acc ++ [y]) ρ
      | none => lcL h ft fe P xs acc ρ) fun o ro => by
        cases o with
        | some y =>
          refine lcL_rel R xs (acc ++ [y]) (fun z hz => hx z (List.mem_cons_of_mem _ hz)) fun ys ho => ?_
          rw [List.append_assoc]
          exact hp (y :: ys) (.put ro ho)
        | none => exact lcL_rel R xs acc (fun z hz => hx z (List.mem_cons_of_mem _ hz)) fun ys ho => hp ys (.drop ro ho)
    exact h1
theorem Outs.map {R : D → Option D → Prop} {f : D → D} (h : ∀ x o, R x o → o = some (f x)) : ∀ {xs ys : List D}, Outs R xs ys → ys = xs.map f
  | _, _, .nil => rfl
  | _, _, .put r t => by
    have e := h _ _ r
    cases e
    rw [Outs.map h t]; rfl
  | _, _, .drop r t => by cases h _ _ r
theorem Outs.filterMap {R : D → Option D → Prop} {f : D → Option D} (h : ∀ x o, R x o → o = f x) : ∀ {xs ys : List D}, Outs R xs ys → ys = xs.filterMap f
  | _, _, .nil => rfl
  | _, _, .put r t => by
    have e := h _ _ r
    rw [List.filterMap_cons, ← e, Outs.filterMap h t]
  | _, _, .drop r t => by
    have e := h _ _ r
    rw [List.filterMap_cons, ← e, Outs.filterMap h t]
theorem Outs.all {R : D → Option D → Prop} {Pr : D → Prop} (h : ∀ x y, R x (some y) → Pr y) : ∀ {xs ys : List D}, Outs R xs ys → ∀ y ∈ ys, Pr y
  | _, _, .nil => fun y hy => nomatch hy
  | _, _, .put r t => fun y hy => by
    rcases List.mem_cons.mp hy with e | hy
    · rw [e]; exact h _ _ r
    · exact Outs.all h t y hy
  | _, _, .drop r t => Outs.all h t
theorem Outs.len {R : D → Option D → Prop} : ∀ {xs ys : List D}, Outs R xs ys → ys.length ≤ xs.length
  | _, _, .nil => Nat.le_refl _
  | _, _, .put r t => Nat.succ_le_succ (Outs.len t)
  | _, _, .drop r t => Nat.le_succ_of_le (Outs.len t)
/-! ### callable defs -/
section
variable {G : Glob} {P : Program} {w : World} {K : PySem.W.Frag} {mg : Str → Option Value} {base : Heap} {x qual : Str} {k n : Nat} {rk : Bool} {m : Spc} {params : Arguments} {body : List Stmt} {scope : Scope} {f : Addr} {fd : FuncData} {ps ks : List Str}
theorem mkFn (Df : FunD K x qual params body scope [] [] f fd) (hF : FnG P w K mg base k f fd ps (spD G K rk ps.length m)) (hm : mg x = some (.ref f)) (har : ps.length = m.ar)
    (hb : ∀ (kV doc pm : Value) (an : Option Addr) (cdv ct : Value) (us : List Value), us.length = ps.length → bindArgs (PySem.W.fnOf x qual params body scope .none kV doc pm an cdv ct) ⟨us, []⟩ = pure (ps.zip us)) : Fn G P w K mg base x k rk m [] :=
  ⟨f, fd, ps, [], [], hF, hm, Df.kp, Df.bindsN hb, .nil, fun _ => .nil, har⟩
/-- positional values and keywords' values, put in order -/
def permIx {α : Type} (ix : List Nat) (us ws : List α) : List α := ix.filterMap fun i => (us ++ ws)[i]?
theorem permIx_rel {α β : Type} {R : α → β → Prop} {us ws : List α} {vs zs : List β} (h1 : Paired R us vs) (h2 : Paired R ws zs) : ∀ ix : List Nat, Paired R (permIx ix us ws) (permIx ix vs zs)
  | [] => .nil
  | i :: ix => by
    have h := paired_append h1 h2
    have ih := permIx_rel h1 h2 ix
    unfold permIx at ih ⊢
    rw [List.filterMap_cons, List.filterMap_cons]
    by_cases hi : i < (vs ++ zs).length
    · obtain ⟨a, b, e1, e2, r⟩ := paired_some h hi
      rw [e1, e2]
      exact .cons r ih
    · have e1 : (us ++ ws)[i]? = none := List.getElem?_eq_none (by rw [h.length]; omega)
      have e2 : (vs ++ zs)[i]? = none := List.getElem?_eq_none (by omega)
      rw [e1, e2]
      exact ih
theorem permIx_len {α : Type} {us ws : List α} : ∀ {ix : List Nat}, (∀ i ∈ ix, i < us.length + ws.length) → (permIx ix us ws).length = ix.length
  | [], _ => rfl
  | i :: ix, h => by
    have ih := permIx_len (us := us) (ws := ws) (ix := ix) fun j hj => h j (List.mem_cons_of_mem _ hj)
    unfold permIx at ih ⊢
    have hi := h i (List.mem_cons_self ..)
    rw [List.filterMap_cons, List.getElem?_eq_getElem (by rw [List.length_append]; exact hi)]
    exact congrArg Nat.succ ih
end
end WL

/-! WT: own classes: attributes, making. -/
namespace WL
open PySem PySem.Spec PyProof.Rows L2
/-- the attribute f of instances: at c = its place among those of the class c -/
structure AtOk (G : Glob) (K : PySem.W.Frag) (f : Str) (at_ : Nat → Option Nat) : Prop where
  ok : ∀ c i, at_ c = some i → ∃ C ns, G.ct c = some (C, ns) ∧ ns[i]? = some f ∧ ns.Nodup ∧ Cls K C ∧ NoAttr K C f
def fldD (at_ : Nat → Option Nat) (x : D) (P : D → Prop) : Prop := match x with
  | .ins c ds => (match at_ c with
    | some i => (match ds[i]? with
      | some d => P d
      | none => False)
    | none => False)
  | _ => False
theorem lookup_at' : ∀ {fs : List (Str × V)} {i : Nat} {f : Str} {p : Str × V}, (fs.map (·.1)).Nodup → (fs.map (·.1))[i]? = some f → fs[i]? = some p → fs.lookup f = some p.2
  | [], i, f, p, _, _, h2 => by simp at h2
  | q :: fs, 0, f, p, nd, h1, h2 => by
    simp only [List.map_cons, List.getElem?_cons_zero, Option.some.injEq] at h1 h2
    subst h2
    subst h1
    simp [List.lookup]
  | q :: fs, i + 1, f, p, nd, h1, h2 => by
    simp only [List.map_cons, List.getElem?_cons_succ, List.nodup_cons] at nd h1 h2
    have hm : f ∈ fs.map (·.1) := List.mem_of_getElem? h1
    have ne : (f == q.1) = false := by
      cases z : (f == q.1) with
      | false => rfl
      | true => rw [beq_iff_eq.mp z] at hm; exact absurd hm nd.1
    rw [List.lookup, ne]
    exact lookup_at' nd.2 h1 h2
theorem lookup_at {fs : List (Str × V)} {ns : List Str} {i : Nat} {f : Str} {p : Str × V} (e : fs.map (·.1) = ns) (nd : ns.Nodup) (h1 : ns[i]? = some f) (h2 : fs[i]? = some p) : fs.lookup f = some p.2 := by
  subst e
  exact lookup_at' nd h1 h2
section
variable {G : Glob} {X : Cx} {O : XO} {rk : Bool} {e o : Expr} {k ka : Kd} {c ca : Bool} {n na : Nat} {f fa : FE} {pos pos' np : Pos} {fl x : Str}
theorem e_fld (at_ : Nat → Option Nat) (ha : PDe G X O e ka ca na fa) (hat : AtOk G X.K fl at_) (hb : attributeBase e fl X.env (eval e X.env) = eval e X.env := by rfl) : PDe G X O (.Attribute e fl pos) .st ca na (fUn (fldD at_) fa) := by
  obtain ⟨ta, pa, qa⟩ := ha.run
  refine ⟨_, pe_fld pa hb, fun B S H σ ρ Kc Q I hb hf hq => ?_⟩
  refine qa B S H σ ρ _ _ I hb hf fun v H1 S1 ρ1 d I1 m1 c1 r1 h1 => ?_
  unfold fldD at h1
  split at h1
  · rename_i cc ds
    split at h1
    · rename_i i ei
      split at h1
      · rename_i y ey
        have r2 : Den G X.K S1 v (.ins cc ds) := by
          cases ka with
          | st => exact r1
          | fr => obtain ⟨a, o, _, e2, _, hc, _⟩ := r1; cases o <;> simp [Own.d, Own.con] at e2 hc
          | bo j => obtain ⟨a, o, _, e2, _, hc⟩ := r1; cases o <;> simp [Own.d, Own.con] at e2 hc
        cases r2 with
        | @ins a C dx fs _ ns _ h hct hn hl hd =>
          obtain ⟨C', ns', e1, e2, nd, cl, na'⟩ := hat.ok cc i ei
          rw [hct] at e1; cases e1
          have hi : i < ds.length := (List.getElem?_eq_some_iff.mp ey).1
          have hp : fs[i]? = some fs[i] := List.getElem?_eq_getElem (by omega)
          exact ⟨a, C, dx, fs, _, rfl, I1.le _ _ h, cl, na', lookup_at hn nd e2 hp, hq _ H1 S1 ρ1 y I1 m1 c1 (hd i _ _ hp ey) h1⟩
      · exact h1.elim
    · exact h1.elim
  · exact h1.elim
/-- self.f = e, a new attribute -/
def fSetF (i : Nat) (fl : Str) (f : FE) : FS := fun Ed ρ => f ρ fun ρ1 d => match ρ1[i]? with
  | some (some (.own (.ins c fs))) => (fl ∉ fs.map (·.1) ∧ fs.length < 1000) ∧ Ed.nx (ρ1.set i (some (.own (.ins c (fs ++ [(fl, d)])))))
  | _ => False
theorem putF_new {fl : Str} {v : V} : ∀ {vs : List (Str × V)}, fl ∉ vs.map (·.1) → putF fl v vs = vs ++ [(fl, v)]
  | [], _ => rfl
  | (g, x) :: r, h => by
    simp only [List.map_cons, List.mem_cons, not_or] at h
    unfold putF
    rw [if_neg (Ne.symm h.1), putF_new h.2]; rfl
theorem s_fld (i : Nat) (hcl : ∀ c C ns, G.ct c = some (C, ns) → Cls X.K C ∧ NoAttr X.K C fl) (hv : PDe G X O e .st c n f) (hN : X.N[i]? = some x := by rfl) (hx : Vis X.env.scope x := by first | exact Or.inl rfl | exact Or.inr (Or.inl rfl) | exact Or.inr (Or.inr rfl))
    (hs : swapsWith e (some (.Attribute (.Name x np) fl pos')) pos.line X.env = pure false := by rfl) (hd : (x == ("__debug__" : Str)) = false := by decide) (hcd : (x == ("__classdict__" : Str)) = false := by decide) :
    PDs G X O rk (.Assign [.Attribute (.Name x np) fl pos'] e pos) n (fSetF i fl f) := by
  obtain ⟨t, pt, q⟩ := hv.run
  refine ⟨_, ps_fld (pe_var hN hx hd hcd) pt hs, fun B S H σ ρ Ed D I hb hf E => ?_⟩
  refine q B S H σ ρ _ _ I hb hf fun v H1 S1 ρ1 d I1 m1 c1 r1 h1 => ?_
  split at h1
  · rename_i cc fs e0
    obtain ⟨⟨hnew, hlen⟩, h1⟩ := h1
    obtain ⟨a, ea, w⟩ := I1.ow i _ e0
    obtain ⟨C, ns, dx, vs, g1, g2, g3⟩ := w.at_
    obtain ⟨cl, na'⟩ := hcl _ _ _ g1
    have hn : fl ∉ vs.map (·.1) := by rw [g3.names]; exact hnew
    refine ⟨.ref a, ea, a, C, dx, vs, rfl, g2, cl, na', by rw [g3.length]; exact hlen, ?_⟩
    rw [putF_new hn]
    exact E.nx _ _ _ _ (I1.chgSlot (i := i) (a := a) (o := .ins cc fs) (o' := .ins cc (fs ++ [(fl, d)])) (u := .ins C dx (vs ++ [(fl, v)])) ⟨e0, ea⟩ ⟨C, ns, dx, _, g1, upd_same, Paired.snoc g3 ⟨rfl, r1⟩⟩) m1 h1
  · exact h1.elim
end

/-! ### making -/
abbrev Bs.init (H : Hp) (S : Fz) (a : Addr) : Bs := { H0 := fun p => if p = a then none else H p, S0 := S.h, tmp := [], self := a }
/-- what __init__ promises: self becomes an instance of the class c -/
def spI (G : Glob) (K : PySem.W.Frag) (n : Nat) (m : Spc) (c : Nat) : Sp := fun vs H Q E => ∃ (S : Fz) (ds : List D) (a dx C : Addr) (ns : List Str) (us : List V), vs = .ref a :: us ∧ us.length = n ∧ G.ct c = some (C, ns) ∧ H a = some (.ins C dx []) ∧ S a = none ∧ ¬ G.M a ∧
  Sta G K (Bs.init H S a) S H ∧ S.T + m.cost ≤ limT ∧ DenL G K S us ds ∧ m.pre ds ∧
  (∀ H' S' fs, Sta G K (Bs.init H S a) S' H' → Sub m.cost S S' → Den G K S' (.ref a) (.ins c fs) → m.post ds (.ins c fs) → Q .non H') ∧
  (∀ n cls dx S' H' x, Sta G K (Bs.init H S a) S' H' → S'.T ≤ S.T → Sub n S S' → DX G K S' H' cls dx x → m.exc ds x → E cls dx H')
def endsI (G : Glob) (c : Nat) (P : D → Prop) : EndsD := { nx := fun ρ => ∃ fs, ρ[0]? = some (some (.own (.ins c fs))) ∧ Own.full G (.ins c fs) ∧ P (.ins c (fs.map (·.2))), rt := fun _ => False }
def startI (c n : Nat) (ds : List D) : EnvD := some (.own (.ins c [])) :: startD n ds
section
variable {G : Glob} {P : Program} {w : World} {K : PySem.W.Frag} {mg : Str → Option Value} {base : Heap} {x qual : Str} {params : Arguments} {body : List Stmt} {scope : Scope} {dvs : List V} {kws : List (Str × V)} {f : Addr} {fd : FuncData} {N ps : List Str} {k : Nat} {m : Spc}
theorem fn_I (c : Nat) {pn : Str} (F : FunD K x qual params body scope dvs kws f fd) {n0 : Str} (Sc : FnScope (n0 :: N) (n0 :: ps) scope)
    (hb : ∀ (cdv : Value) (A : Around) (outer : List Env) (s : Shared) (H : Hp) (E : XK) (t0 : Nat) (ds : List D), Room k (A.deeper (envOfC qual scope s.heap.objs.size f cdv)) → A.guards = some [] → m.pre ds → ds.length = ps.length →
      Takes (cxOf (L2.CX P w) P w K mg base (n0 :: N) qual scope f cdv A outer s H E) (defO E (m.exc ds) t0).W →
      ∃ n g, PDb G (cxOf (L2.CX P w) P w K mg base (n0 :: N) qual scope f cdv A outer s H E) (defO E (m.exc ds) t0) false body n g ∧ n ≤ m.cost ∧ g (endsI G c (m.post ds)) (startI c N.length ds)) :
    FnG P w K mg base (k + 1) f fd (n0 :: ps) (spI G K ps.length m c) := by
  refine FunD.okG F Sc (fun vs H Q E h => ?_) (fun cdv A outer s H vs Q E hr gd h => ?_)
  · obtain ⟨S, ds, a, dx, C, ns, us, e, hl, _⟩ := h
    rw [e, List.length_cons, List.length_cons, hl]
  · obtain ⟨S, ds, a, dx, C, ns, us, e, hl, hct, ha, hs, hm, I, hb0, r, hp, hq, he⟩ := h
    subst e
    have hl' : ds.length = ps.length := by rw [← r.length]; exact hl
    obtain ⟨n, g, pb, hn, hg⟩ := hb cdv A outer s H E S.T ds hr gd hp hl' (takes_of rfl rfl rfl rfl)
    obtain ⟨t, pt, q⟩ := pb.run
    have eS : L2.start (n0 :: N) (V.ref a :: us) = some (V.ref a) :: L2.start N us := by
      unfold L2.start
      simp
    have lN : (L2.start N us).length = (startD N.length ds).length := by
      unfold L2.start startD
      rw [List.length_append, List.length_append, List.length_map, List.length_map, List.length_replicate, List.length_replicate, r.length]
    have ow : ∀ i b o, Owns (some (V.ref a) :: L2.start N us) (startI c N.length ds) i b o → i = 0 ∧ b = a ∧ o = .ins c [] := fun i b o z => by
      cases i with
      | zero =>
        obtain ⟨z1, z2⟩ := z
        simp [startI] at z1 z2
        exact ⟨rfl, z2.symm, z1.symm⟩
      | succ i =>
        have : (startD N.length ds)[i]? = some (some (.own o)) := by simpa [startI] using z.1
        exact (start_ow this).elim
    have I0 : Eok G K (defO E (m.exc ds) S.T) (Bs.init H S a) S H (some (V.ref a) :: L2.start N us) (startI c N.length ds) := by
      refine ⟨I, .inl (Nat.le_refl _), fun n2 cls dx S' H' σ' x t l2 m2 _ d z => he n2 cls dx S' H' x t l2 m2 d z, fun i d e => ?_, fun i o e => ?_, fun i j b o o' h1 h2 => ?_, fun j a o e => by simp at e, fun i j a o o' h1 e => by simp at e, fun i j a o o' e _ => by simp at e, by simp [startI, lN], fun i c' fs e => ?_, fun _ z => nomatch z⟩
      · cases i with
        | zero => simp [startI] at e
        | succ i =>
          obtain ⟨v, e1, e2⟩ := start_im (N := N) r i d (by simpa [startI] using e)
          exact ⟨v, by simpa using e1, e2⟩
      · cases i with
        | zero =>
          simp [startI] at e
          subst e
          exact ⟨a, rfl, hs, hm, if_pos rfl, C, ns, dx, [], hct, ha, .nil⟩
        | succ i => exact (start_ow (by simpa [startI] using e)).elim
      · exact (ow _ _ _ h1).1.trans (ow _ _ _ h2).1.symm
      · cases i with
        | zero => rfl
        | succ i => exact (start_ow (by simpa [startI] using e)).elim
    refine ⟨t, pt, ?_⟩
    rw [eS]
    refine q (Bs.init H S a) S H _ _ (endsI G c (m.post ds)) _ I0 (by omega) hg ⟨fun σ' H' S' ρ' I' m' h => ?_, fun _ v H' S' d I' m' r' h => h.elim, fun _ _ _ _ _ _ z => z.elim, fun _ _ _ _ _ _ z => z.elim, fun z => absurd rfl z⟩
    obtain ⟨fs, e0, hfull, hpost⟩ := h
    obtain ⟨a', e1, w1⟩ := I'.ow 0 _ e0
    have e2 := I'.sf 0 c fs e0
    have : a' = a := by
      rw [e1] at e2
      cases e2; rfl
    subst this
    obtain ⟨w2, nb⟩ := I'.take ⟨e0, e1⟩
    obtain ⟨S2, I2, m2, dn⟩ := I'.forget.freeze w2 hfull nb
    exact hq H' S2 _ I2.toSta ((m'.t0 m2).up hn) dn hpost
end
end WL

/-! WU: making instances of own classes. -/
namespace WL
open PySem PySem.Spec PyProof.Rows L2
/-- C(..): a new instance and its dict, then __init__; E may look at the locals -/
def tMakeSD (C : Addr) (sp : Sp) (dvs : List V) (E : L2.St → XK) (t : TA) : TE := fun σ H Q => t σ H fun vs H1 => ∀ x dx, H1 x = none → H1 dx = none → dx ≠ x →
  sp (.ref x :: (vs ++ dvs)) (upd (upd H1 dx (.own x)) x (.ins C dx [])) (fun v H2 => v = .non ∧ Q (.ref x) H2) (E σ)
section
variable {X : Cx} {k : Nat} {f C : Addr} {fd : FuncData} {ps : List Str} {sp : Sp} {dvs : List V} {ds : List Value} {E : L2.St → XK} {x : Str} {p pos : Pos} {e : Expr} {es : List Expr} {t : TA}
theorem run_makeG {pins : List (Addr × Obj)} {σ : L2.St} {H : Hp} {s : Shared} {Q : VK} {us : List Value} {vs : List V} (M : Mk X.K C f) (F : FnG X.prog X.w X.K X.mg X.base k f fd ps sp) (hr : Room (k + 1) X.A) (hgd : X.A.guards = some []) (hb : Binds X.K fd ps ds) (hd : Vals dvs ds)
    (hx : PassesAt (L2.CX X.prog X.w) X σ (E σ)) (I : Inv X pins σ H s) (r : Vals vs us)
    (h : ∀ x dx, H x = none → H dx = none → dx ≠ x → sp (.ref x :: (vs ++ dvs)) (upd (upd H dx (.own x)) x (.ins C dx [])) (fun v H2 => v = .non ∧ Q (.ref x) H2) (E σ)) :
    wpAny (model X.prog X.w) X.A (call (.ref C) us) (EP X pins σ Q) X.xe s := by
  have hq := h (s.heap.objs.size + 1) s.heap.objs.size (I.hok.fresh (Nat.le_succ _)) (I.hok.fresh (Nat.le_refl _)) (Nat.ne_of_lt (Nat.lt_succ_self _))
  have I2 := Inv.made (C := C) I
  have r2 : Vals (V.ref (s.heap.objs.size + 1) :: (vs ++ dvs)) (Value.ref (s.heap.objs.size + 1) :: (us ++ ds)) := .cons rfl (r.append hd)
  have hl : (Value.ref (s.heap.objs.size + 1) :: us ++ ds).length = ps.length := by
    have e := r2.length
    rw [F.len _ _ _ _ hq] at e
    exact e.symm
  have gd2 : (X.A.under (.builtin "type.__call__" ⟨.ref C :: us, []⟩)).guards = some [] := by
    first | exact hgd | simpa [Around.under, Around.guards, Code.envs, Code.isFrame] using hgd
  refine wpAny_call (make_map (f := f) I.kIn M.makes M.init (beq_iff_eq.mp M.fn) (codeAny_mono (F.run _ X.stack _ _ ⟨Value.ref (s.heap.objs.size + 1) :: us, []⟩ (Value.ref (s.heap.objs.size + 1) :: (us ++ ds)) _ _ (E σ) (hr.make C us []) gd2
    (I2.env0.make C us []) (hb _ (Value.ref (s.heap.objs.size + 1) :: us) I2.kIn hl) r2 hq) fun r s' hq' => ?_))
  cases r with
  | error e => exact hx pins _ _ e s' I2 hq'
  | ok fl =>
    cases fl with
    | ret u =>
      obtain ⟨v, H', I3, rv, ev, q3⟩ := I2.after hq'
      subst ev
      exact ⟨rv, ⟨V.ref (s.heap.objs.size + 1), H', I3, rfl, q3⟩⟩
    | next => exact False.elim hq'
    | brk => exact False.elim hq'
    | cont => exact False.elim hq'
theorem pe_makeG (M : Mk X.K C f) (F : FnG X.prog X.w X.K X.mg X.base k f fd ps sp) (hr : Room (k + 1) X.A) (hgd : X.A.guards = some []) (hg : Gl X x) (hm : X.mg x = some (.ref C)) (hb : Binds X.K fd ps ds) (hd : Vals dvs ds) (hx : ∀ σ, PassesAt (L2.CX X.prog X.w) X σ (E σ))
    (ha : PA X (e :: es) t) (hdb : (x == ("__debug__" : Str)) = false) (he : starEach (e :: es) X.env = (false, eval e X.env) :: starEach es X.env) (hpl : (backTo pos (starEach es X.env)).any (·.1) = false) :
    PE X (.Call (.Name x p) (e :: es) [] pos) (tMakeSD C sp dvs E t) := by
  refine ⟨fun pins s σ H Q I h => ?_⟩
  refine wpAny_Call_Name_kw (ld_glob I hg hm ?_ hdb)
  refine PySem.W.callWith_K (h₀ := X.base) I.ok.mod.kin M.kp (thn (ha.run pos pins s σ H _ I h) fun us s1 ⟨vs, H1, I1, r, q⟩ => ⟨I1.kIn, ?_⟩) he hpl
  exact run_makeG M F hr hgd hb hd (hx σ) I1 r q
end
section
variable {G : Glob} {K : PySem.W.Frag} {O : XO} {B : Bs} {S S' : Fz} {H H' : Hp}
theorem Sta.openI {x dx C : Addr} (I : Sta G K B S H) (hx : H x = none) (hdx : H dx = none) (ne : dx ≠ x) :
    Sta G K (Bs.init (upd (upd H dx (.own x)) x (.ins C dx [])) S x) S (upd (upd H dx (.own x)) x (.ins C dx [])) := by
  have I2 : Sta G K B S (upd (upd H dx (.own x)) x (.ins C dx [])) := (I.laid hdx).laid (by rw [upd_ne (Ne.symm ne)]; exact hx)
  refine ⟨I2.le, I2.sm, I2.j, fun a z => ?_, fun a z _ => .inl z, fun a o e _ _ => ?_⟩
  · by_cases h : a = x
    · exact absurd (if_pos h) z
    · have : (Bs.init (upd (upd H dx (.own x)) x (.ins C dx [])) S x).H0 a = (upd (upd H dx (.own x)) x (.ins C dx [])) a := if_neg h
      rw [this] at z; exact z
  · by_cases h : a = x
    · rw [show (Bs.init (upd (upd H dx (.own x)) x (.ins C dx [])) S x).H0 a = none from if_pos h] at e; cases e
    · rw [show (Bs.init (upd (upd H dx (.own x)) x (.ins C dx [])) S x).H0 a = (upd (upd H dx (.own x)) x (.ins C dx [])) a from if_neg h] at e; exact .inl e
theorem Sta.shutI {x dx C : Addr} (hx : H x = none) (hdx : H dx = none) (J : Sta G K (Bs.init (upd (upd H dx (.own x)) x (.ins C dx [])) S x) S' H') : Sta G K (Bs.at H S) S' H' := by
  have key : ∀ a, H a ≠ none → (Bs.init (upd (upd H dx (.own x)) x (.ins C dx [])) S x).H0 a = H a := fun a z => by
    have n1 : a ≠ x := fun e => z (e ▸ hx)
    have n2 : a ≠ dx := fun e => z (e ▸ hdx)
    rw [show (Bs.init (upd (upd H dx (.own x)) x (.ins C dx [])) S x).H0 a = (upd (upd H dx (.own x)) x (.ins C dx [])) a from if_neg n1, upd_ne n1, upd_ne n2]
  refine ⟨J.le, J.sm, J.j, fun a z => ?_, fun a z nt => ?_, fun a o e m n => ?_⟩
  · have z : H a ≠ none := z
    exact J.dom a (by rw [key a z]; exact z)
  · rcases J.sn a z nt with z | z
    · exact .inl z
    · refine .inr ?_
      show H a = none
      cases q : H a with
      | none => rfl
      | some o => rw [key a (by rw [q]; exact fun z => nomatch z), q] at z; cases z
  · have e : H a = some o := e
    exact J.kept a o (by rw [key a (by rw [e]; exact fun z => nomatch z), e]) m n
end
/-- a class that is made by its own __init__ -/
structure MkI (G : Glob) (P : Program) (w : World) (K : PySem.W.Frag) (mg : Str → Option Value) (base : Heap) (x : Str) (k : Nat) (m : Spc) (c : Nat) (dds : List D) : Prop where
  ex : ∃ (C f : Addr) (fd : FuncData) (n0 : Str) (ps : List Str) (ds : List Value) (dvs : List V) (ns : List Str), Mk K C f ∧ FnG P w K mg base k f fd (n0 :: ps) (spI G K ps.length m c) ∧ mg x = some (.ref C) ∧ G.ct c = some (C, ns) ∧
    Binds K fd (n0 :: ps) ds ∧ Vals dvs ds ∧ (∀ S : Fz, DenL G K S dvs dds) ∧ ps.length = m.ar
section
variable {G : Glob} {X : Cx} {O : XO} {x : Str} {p pos : Pos} {e : Expr} {es : List Expr} {k j : Nat} {m : Spc} {dds : List D} {c : Bool} {cc na : Nat} {fa : FA}
theorem e_make (F : MkI G X.prog X.w X.K X.mg X.base x k m cc dds) (hr : Room (j + 1) X.A) (hgd : X.A.guards = some []) (hk : k ≤ j) (tk : Lets X O) (ha : PDa G X O (e :: es) c na fa) (hx0 : m.cost = 0 ∨ ∀ x, ¬ O.xd x := by first | exact .inl rfl | exact .inr fun _ z => z) (hg : Gl X x := by rfl) (hdb : (x == ("__debug__" : Str)) = false := by decide)
    (he : starEach (e :: es) X.env = (false, eval e X.env) :: starEach es X.env := by rfl) (hpl : (backTo pos (starEach es X.env)).any (·.1) = false := by rfl) : PDe G X O (.Call (.Name x p) (e :: es) [] pos) .st c (na + m.cost) (fCall O.xd m dds fa) := by
  obtain ⟨C, f, fd, n0, ps, ds, dvs, ns, M, F, hm, hct, hb, hv, hd, hlen⟩ := F.ex
  obtain ⟨t, pa, q⟩ := ha.run
  obtain ⟨E, hE, hW⟩ := tk.ex
  refine ⟨_, pe_makeG M F (hr.mono (by omega)) hgd hg hm hb hv hE pa hdb he hpl, fun B S H σ ρ Kc Q I hb hf hq => ?_⟩
  refine q B S H σ ρ _ _ I (by omega) hf fun vs H1 S1 ρ1 xs I1 m1 c1 r1 h1 => ?_
  intro y dy hy hdy hne
  obtain ⟨har, hp, hpost, hx⟩ := h1
  have r2 : DenL G X.K S1 (vs ++ dvs) (xs ++ dds) := paired_append r1 (hd S1)
  obtain ⟨sy, my, _⟩ := I1.toSta.new hy
  refine ⟨S1, xs ++ dds, y, dy, C, ns, vs ++ dvs, rfl, ?_, hct, upd_same, sy, my, I1.toSta.openI hy hdy hne, (by have := m1.lo; omega), r2, hp, fun H' S' fs J m' dn hpo => ⟨rfl, ?_⟩, fun n2 cls dx S' H' x' J l2 m' dd hxe => ?_⟩
  · rw [r2.length, List.length_append, har, hlen]
  · exact hq _ H' S' ρ1 _ (I1.call (J.shutI hy hdy) hx0 m') (m1.trans m') c1 dn (hpost _ hpo)
  · rcases I1.tz with z | z
    · exact hW _ _ _ _ x' (hx x' hxe) (I1.xr n2 cls dx S' H' σ x' (I1.toSta.call (J.shutI hy hdy)) (Nat.le_trans l2 z) m' (fun _ _ => rfl) dd (hx x' hxe))
    · exact absurd (hx x' hxe) (z x')
end

/-! ### methods -/
section
variable {X : Cx} {k : Nat} {f C : Addr} {fd : FuncData} {ps : List Str} {sp : Sp} {dvs : List V} {ds : List Value} {E : L2.St → XK} {m : Str} {apos pos : Pos} {e o : Expr} {es : List Expr} {ta : TE} {t : TA}
end

/-- a method of the class c -/
structure Mt (G : Glob) (P : Program) (w : World) (K : PySem.W.Frag) (mg : Str → Option Value) (base : Heap) (cc : Nat) (nm : Str) (k : Nat) (rk : Bool) (m : Spc) (dds : List D) : Prop where
  ex : ∃ (C f : Addr) (fd : FuncData) (ps : List Str) (ds : List Value) (dvs : List V) (ns : List Str), FnG P w K mg base k f fd ps (spD G K rk ps.length m) ∧ G.ct cc = some (C, ns) ∧ nm ∉ ns ∧ Cls K C ∧ Meth K C nm f ∧ Binds K fd ps ds ∧ Vals dvs ds ∧ (∀ S : Fz, DenL G K S dvs dds) ∧ ps.length = m.ar
def fMeth (cc : Nat) (xd : D → Prop) (m : Spc) (dds : List D) (fo : FE) (fa : FA) : FE := fun ρ Kc => fo ρ fun ρ1 x => (∃ fs, x = .ins cc fs) ∧ fa ρ1 fun ρ2 ds => 1 + ds.length + dds.length = m.ar ∧ m.pre (x :: (ds ++ dds)) ∧ (∀ d, m.post (x :: (ds ++ dds)) d → Kc ρ2 d) ∧ ∀ z, m.exc (x :: (ds ++ dds)) z → xd z
section
variable {G : Glob} {X : Cx} {O : XO} {rk : Bool} {ko : Kd} {nm : Str} {apos pos : Pos} {e o : Expr} {es : List Expr} {k j : Nat} {m : Spc} {dds : List D} {c co : Bool} {cc na no : Nat} {fo : FE} {fa : FA}
end
end WL

/-! WV: properties of own classes. -/
namespace WL
open PySem PySem.Spec PyProof.Rows L2
section
variable {X : Cx} {k : Nat} {C p g a dx : Addr} {fs : List (Str × V)} {f : Str} {fd : FuncData} {ps : List Str} {sp : Sp} {e : Expr} {pos : Pos} {ta : TE}
theorem getprop_G {pins : List (Addr × Obj)} {σ : L2.St} {H : Hp} {s : Shared} {Q : VK} {b : Bool} {E' : Value → Shared → Prop} (I : Inv X pins σ H s) (ea : H a = some (.ins C dx fs)) (c : Cls X.K C) (hp : PropOf X.K C f p g)
    (F : FnG X.prog X.w X.K X.mg X.base k g fd ps sp) (hr : Room (k + 1) X.A) (hgd : X.A.guards = some []) (hb : Binds X.K fd ps []) (h : sp [.ref a] H Q (fun _ _ _ => False)) :
    wpAny (model X.prog X.w) X.A (getAttr (.ref a) f b) (EP X pins σ Q) E' s := by
  obtain ⟨mA, O, _, _, _, _⟩ := ins_get I.hok ea
  obtain ⟨od, J, _⟩ := O.look
  obtain ⟨rest, hrec⟩ := hp.rec_
  have I1 := I.tok (s.toks + 1)
  have hl : ([Value.ref a] ++ []).length = ps.length := by
    rw [← F.len _ _ _ _ h]; rfl
  have hc : (PySem.W.clsIn X.K C).isSome = true := by
    obtain ⟨cd, hc, _⟩ := PySem.W.any_some c.hd
    rw [hc]
    rfl
  have gd2 : X.A.in1.guards = some [] := by first | exact hgd | simpa [Around.in1] using hgd
  refine PySem.W.get_bind I.kIn J (PySem.W.plainGet_of (c.get f)).1 (PySem.W.findObj_data hc hp.at_ hp.get hp.tak) (PySem.W.plainGet_of (c.get f)).2 (wpAny_call (PySem.W.prop_get (s := { s with toks := s.toks + 1 }) I.kIn hrec ?_))
  refine codeAny_mono (F.run X.A.in1 X.stack { s with toks := s.toks + 1 } H ⟨[.ref a], []⟩ [.ref a] [.ref a] Q (fun _ _ _ => False) hr.in1 gd2 I1.env0.in1 (hb _ [.ref a] I1.kIn hl) (.cons rfl .nil) h) fun r s' hq => ?_
  cases r with
  | error er =>
    obtain ⟨a, B, H', cls, d, _, _, _, _, _, _, _, z⟩ := hq
    exact z.elim
  | ok fl =>
    cases fl with
    | ret u =>
      obtain ⟨v, H', I3, rv, q3⟩ := I1.after hq
      show wpAny _ _ (handedOut u) _ _ _
      rw [PySem.W.handedOut_of (handed_of rv)]
      exact wpAny_pure ⟨v, H', I3, rv, q3⟩
    | next => exact False.elim hq
    | brk => exact False.elim hq
    | cont => exact False.elim hq
def tPropG (C : Addr) (sp : Sp) (ta : TE) : TE := fun σ H Q => ta σ H fun x H1 => ∃ a dx fs, x = .ref a ∧ H1 a = some (.ins C dx fs) ∧ sp [.ref a] H1 Q (fun _ _ _ => False)
theorem pe_propG (he : PE X e ta) (c : Cls X.K C) (hp : PropOf X.K C f p g) (F : FnG X.prog X.w X.K X.mg X.base k g fd ps sp) (hr : Room (k + 1) X.A) (hgd : X.A.guards = some []) (hb : Binds X.K fd ps [])
    (hab : attributeBase e f X.env (eval e X.env) = eval e X.env) : PE X (.Attribute e f pos) (tPropG C sp ta) := by
  refine ⟨fun pins s σ H Q I h => ?_⟩
  refine attr_of hab (thn (he.run pins s σ H _ I h) fun u s1 ⟨x, H1, I1, rx, a, dx, fs, ex, ea, q⟩ => ?_)
  subst ex
  obtain rfl : u = Value.ref a := rx
  exact getprop_G I1 ea c hp F hr hgd hb q
end

/-- a property of the class cc whose getter raises nothing -/
structure Pr (G : Glob) (P : Program) (w : World) (K : PySem.W.Frag) (mg : Str → Option Value) (base : Heap) (cc : Nat) (nm : Str) (k : Nat) (rk : Bool) (m : Spc) : Prop where
  ex : ∃ (C p g : Addr) (fd : FuncData) (pn : Str) (ns : List Str), FnG P w K mg base k g fd [pn] (spD G K rk 1 m) ∧ G.ct cc = some (C, ns) ∧ Cls K C ∧ PropOf K C nm p g ∧ Binds K fd [pn] [] ∧ (∀ ds x, ¬ m.exc ds x)
def fProp (cc : Nat) (m : Spc) (fo : FE) : FE := fun ρ Kc => fo ρ fun ρ1 x => (∃ fs, x = .ins cc fs) ∧ m.pre [x] ∧ ∀ d, m.post [x] d → Kc ρ1 d
section
variable {G : Glob} {X : Cx} {O : XO} {rk : Bool} {nm : Str} {pos : Pos} {o : Expr} {k j : Nat} {m : Spc} {co : Bool} {cc no : Nat} {fo : FE}
theorem e_prop (F : Pr G X.prog X.w X.K X.mg X.base cc nm k rk m) (hr : Room (j + 1) X.A) (hgd : X.A.guards = some []) (hk : k ≤ j) (ho : PDe G X O o .st co no fo) (hx0 : m.cost = 0 ∨ ∀ x, ¬ O.xd x := by first | exact .inl rfl | exact .inr fun _ z => z)
    (hab : attributeBase o nm X.env (eval o X.env) = eval o X.env := by rfl) : PDe G X O (.Attribute o nm pos) (rkK rk) co (no + m.cost) (fProp cc m fo) := by
  obtain ⟨C, p, g, fd, pn, ns, F, hct, cl, pr, hb, hex⟩ := F.ex
  obtain ⟨to, po, qo⟩ := ho.run
  refine ⟨_, pe_propG po cl pr (F.mono hk) hr hgd hb hab, fun B S H σ ρ Kc Q I hb hf hq => ?_⟩
  refine qo B S H σ ρ _ _ I (by omega) hf fun x H0 S0 ρ0 xd I0 m0 c0 r0 h0 => ?_
  obtain ⟨⟨fs0, rfl⟩, hp, hpost⟩ := h0
  have r0 : Den G X.K S0 x (.ins cc fs0) := r0
  have r0' := r0
  cases r0 with
  | @ins a C' dx fs _ ns' _ h hct' hn hl hdf =>
    rw [hct] at hct'; cases hct'
    refine ⟨a, dx, fs, rfl, I0.le _ _ h, ?_⟩
    refine ⟨S0, _, rfl, I0.toSta.enter, (by have := m0.lo; omega), .cons r0' .nil, hp, fun v H' S' d J m' r' hpo => ?_, fun n2 cls dx S' H' x' J l2 m' dd hxe => (hex _ _ hxe).elim⟩
    exact hq v H' S' ρ0 d (I0.call J hx0 m') (m0.trans m') c0 (I0.answer J m' r') (hpost d hpo)
end
end WL

/-! WW: methods and makes without arguments. -/
namespace WL
open PySem PySem.Spec PyProof.Rows L2
section
variable {G : Glob} {X : Cx} {O : XO} {rk : Bool} {nm : Str} {apos pos : Pos} {o : Expr} {k j : Nat} {m : Spc} {dds : List D} {co : Bool} {cc no : Nat} {fo : FE}
def fMeth0 (cc : Nat) (xd : D → Prop) (m : Spc) (dds : List D) (fo : FE) : FE := fun ρ Kc => fo ρ fun ρ1 x => (∃ fs, x = .ins cc fs) ∧ 1 + dds.length = m.ar ∧ m.pre (x :: dds) ∧ (∀ d, m.post (x :: dds) d → Kc ρ1 d) ∧ ∀ z, m.exc (x :: dds) z → xd z
end

section
variable {X : Cx} {k : Nat} {f C : Addr} {fd : FuncData} {ps : List Str} {sp : Sp} {dvs : List V} {ds : List Value} {E : L2.St → XK} {x : Str} {p pos : Pos}
end

section
variable {G : Glob} {X : Cx} {O : XO} {x : Str} {p pos : Pos} {k j : Nat} {m : Spc} {dds : List D} {cc : Nat}
end
end WL

/-! WX: making with keywords. -/
namespace WL
open PySem PySem.Spec PyProof.Rows L2
def tMakeGK (C : Addr) (n m : Nat) (sp : Sp) (gV : List V → List V → List V) (E : L2.St → XK) (t tk : TA) : TE := fun σ H Q => t σ H fun vs H1 => tk σ H1 fun zs H2 => vs.length = n ∧ zs.length = m ∧
  ∀ x dx, H2 x = none → H2 dx = none → dx ≠ x → sp (gV (.ref x :: vs) zs) (upd (upd H2 dx (.own x)) x (.ins C dx [])) (fun v H3 => v = .non ∧ Q (.ref x) H3) (E σ)
section
variable {X : Cx} {k n : Nat} {f C : Addr} {fd : FuncData} {ps ks : List Str} {sp : Sp} {E : L2.St → XK} {x : Str} {p pos : Pos} {e : Expr} {es : List Expr} {kws : List Keyword} {t tk : TA} {g : List Value → List Value → List Value} {gV : List V → List V → List V}
theorem run_makeGK {pins : List (Addr × Obj)} {σ : L2.St} {H : Hp} {s : Shared} {Q : VK} {us ws : List Value} {vs zs : List V} (M : Mk X.K C f) (F : FnG X.prog X.w X.K X.mg X.base k f fd ps sp) (hr : Room (k + 1) X.A) (hgd : X.A.guards = some []) (hb : KBn X.K fd ps (n + 1) ks g gV)
    (hx : PassesAt (L2.CX X.prog X.w) X σ (E σ)) (I : Inv X pins σ H s) (r : Vals vs us) (rz : Vals zs ws) (l1 : vs.length = n) (l2 : zs.length = ks.length)
    (h : ∀ x dx, H x = none → H dx = none → dx ≠ x → sp (gV (.ref x :: vs) zs) (upd (upd H dx (.own x)) x (.ins C dx [])) (fun v H2 => v = .non ∧ Q (.ref x) H2) (E σ)) :
    wpAny (model X.prog X.w) X.A (call (.ref C) us (ks.zip ws)) (EP X pins σ Q) X.xe s := by
  have hq := h (s.heap.objs.size + 1) s.heap.objs.size (I.hok.fresh (Nat.le_succ _)) (I.hok.fresh (Nat.le_refl _)) (Nat.ne_of_lt (Nat.lt_succ_self _))
  have I2 := Inv.made (C := C) I
  have r1 : Vals (V.ref (s.heap.objs.size + 1) :: vs) (Value.ref (s.heap.objs.size + 1) :: us) := .cons rfl r
  have r2 := hb.rel r1 rz
  have e1 : (Value.ref (s.heap.objs.size + 1) :: us).length = n + 1 := r1.length.symm.trans (congrArg Nat.succ l1)
  have e2 : ws.length = ks.length := rz.length.symm.trans l2
  have gd2 : (X.A.under (.builtin "type.__call__" ⟨.ref C :: us, ks.zip ws⟩)).guards = some [] := by
    first | exact hgd | simpa [Around.under, Around.guards, Code.envs, Code.isFrame] using hgd
  refine wpAny_call (make_map (f := f) I.kIn M.makes M.init (beq_iff_eq.mp M.fn) (codeAny_mono (F.run _ X.stack _ _ ⟨Value.ref (s.heap.objs.size + 1) :: us, ks.zip ws⟩ (g (Value.ref (s.heap.objs.size + 1) :: us) ws) _ _ (E σ) (hr.make C us (ks.zip ws)) gd2
    (I2.env0.make C us (ks.zip ws)) (hb.to _ (Value.ref (s.heap.objs.size + 1) :: us) ws I2.kIn e1 e2) r2 hq) fun r s' hq' => ?_))
  cases r with
  | error e => exact hx pins _ _ e s' I2 hq'
  | ok fl =>
    cases fl with
    | ret u =>
      obtain ⟨v, H', I3, rv, ev, q3⟩ := I2.after hq'
      subst ev
      exact ⟨rv, ⟨V.ref (s.heap.objs.size + 1), H', I3, rfl, q3⟩⟩
    | next => exact False.elim hq'
    | brk => exact False.elim hq'
    | cont => exact False.elim hq'
theorem pe_makeGK (M : Mk X.K C f) (F : FnG X.prog X.w X.K X.mg X.base k f fd ps sp) (hr : Room (k + 1) X.A) (hgd : X.A.guards = some []) (hg : Gl X x) (hm : X.mg x = some (.ref C)) (hb : KBn X.K fd ps (n + 1) ks g gV) (hx : ∀ σ, PassesAt (L2.CX X.prog X.w) X σ (E σ))
    (ha : PA X (e :: es) t) (hkw : PK X kws tk) (hall : (backToKw pos (keywordEach kws X.env)).all (·.1.isSome) = true) (hks : (backToKw pos (keywordEach kws X.env)).filterMap (·.1) = ks)
    (hdb : (x == ("__debug__" : Str)) = false) (he : starEach (e :: es) X.env = (false, eval e X.env) :: starEach es X.env)
    (hpl : ((backTo pos (starEach (e :: es) X.env)).any (·.1) || (backToKw pos (keywordEach kws X.env)).any (·.1.isNone)) = false) :
    PE X (.Call (.Name x p) (e :: es) kws pos) (tMakeGK C n ks.length sp gV E t tk) := by
  refine ⟨fun pins s σ H Q I h => ?_⟩
  refine wpAny_Call_Name_kw (ld_glob I hg hm ?_ hdb)
  refine PySem.W.callWith_KW (h₀ := X.base) I.ok.mod.kin M.kp hall (thn (ha.run pos pins s σ H _ I h) fun us s1 ⟨vs, H1, I1, r, q⟩ => ?_) hpl he
  refine thn (hkw.run pos pins s1 σ H1 _ I1 q) fun ws s2 ⟨zs, H2, I2, rz, l1, l2, q2⟩ => ⟨I2.kIn, ?_⟩
  rw [hks]
  exact run_makeGK M F hr hgd hb (hx σ) I2 r rz l1 l2 q2
end

/-- a class made with n positional values and the keywords ks -/
structure MkIK (G : Glob) (P : Program) (w : World) (K : PySem.W.Frag) (mg : Str → Option Value) (base : Heap) (x : Str) (k : Nat) (m : Spc) (cc n : Nat) (ks : List Str) (gD : List D → List D → List D) : Prop where
  ex : ∃ (C f : Addr) (fd : FuncData) (n0 : Str) (ps : List Str) (ns : List Str) (g : List Value → List Value → List Value) (gV gV' : List V → List V → List V), Mk K C f ∧ FnG P w K mg base k f fd (n0 :: ps) (spI G K ps.length m cc) ∧ mg x = some (.ref C) ∧ G.ct cc = some (C, ns) ∧
    KBn K fd (n0 :: ps) (n + 1) ks g gV ∧ (∀ (v : V) vs zs, gV (v :: vs) zs = v :: gV' vs zs) ∧
    (∀ (S : Fz) vs zs ds es, DenL G K S vs ds → DenL G K S zs es → vs.length = n → zs.length = ks.length → DenL G K S (gV' vs zs) (gD ds es) ∧ (gV' vs zs).length = ps.length)
section
variable {G : Glob} {X : Cx} {O : XO} {x : Str} {p pos : Pos} {e : Expr} {es : List Expr} {kws : List Keyword} {k j n cc : Nat} {m : Spc} {ks : List Str} {gD : List D → List D → List D} {ca cb : Bool} {na nb : Nat} {fa fk : FA}
theorem e_makeK (F : MkIK G X.prog X.w X.K X.mg X.base x k m cc n ks gD) (hr : Room (j + 1) X.A) (hgd : X.A.guards = some []) (hk : k ≤ j) (tk : Lets X O) (ha : PDa G X O (e :: es) ca na fa) (hb : PDk G X O kws cb nb fk) (hx0 : m.cost = 0 ∨ ∀ x, ¬ O.xd x := by first | exact .inl rfl | exact .inr fun _ z => z) (hg : Gl X x := by rfl)
    (hall : (backToKw pos (keywordEach kws X.env)).all (·.1.isSome) = true := by rfl) (hks : (backToKw pos (keywordEach kws X.env)).filterMap (·.1) = ks := by rfl) (hdb : (x == ("__debug__" : Str)) = false := by decide)
    (he : starEach (e :: es) X.env = (false, eval e X.env) :: starEach es X.env := by rfl) (hpl : ((backTo pos (starEach (e :: es) X.env)).any (·.1) || (backToKw pos (keywordEach kws X.env)).any (·.1.isNone)) = false := by rfl) :
    PDe G X O (.Call (.Name x p) (e :: es) kws pos) .st (ca && cb) (na + nb + m.cost) (fCallK O.xd m n ks.length gD fa fk) := by
  obtain ⟨C, f, fd, n0, ps, ns, g, gV, gV', M, F, hm, hct, hkb, hgv, hD⟩ := F.ex
  obtain ⟨E, hE, hW⟩ := tk.ex
  obtain ⟨t, pa, qa⟩ := ha.run
  obtain ⟨t2, pb, qb⟩ := hb.run
  refine ⟨_, pe_makeGK M F (hr.mono (by omega)) hgd hg hm hkb hE pa pb hall hks hdb he hpl, fun B S H σ ρ Kc Q I hb hf hq => ?_⟩
  refine qa B S H σ ρ _ _ I (by omega) hf fun vs H1 S1 ρ1 xs I1 m1 c1 r1 h1 => ?_
  refine qb B S1 H1 σ ρ1 _ _ I1 (by have := m1.lo; omega) h1 fun zs H2 S2 ρ2 ys I2 m2 c2 r2 h2 => ?_
  obtain ⟨⟨l1, l2⟩, hp, hpost, hx⟩ := h2
  have r1' := DenL.mono m2 r1
  have l1' := r1.length.trans l1
  have l2' := r2.length.trans l2
  obtain ⟨r3, l3⟩ := hD S2 vs zs xs ys r1' r2 l1' l2'
  refine ⟨l1', l2', fun y dy hy hdy hne => ?_⟩
  obtain ⟨sy, my, _⟩ := I2.toSta.new hy
  refine ⟨S2, gD xs ys, y, dy, C, ns, gV' vs zs, hgv _ _ _, l3, hct, upd_same, sy, my, I2.toSta.openI hy hdy hne, (by have := m1.lo; have := m2.lo; omega), r3, hp, fun H' S' fs J m' dn hpo => ⟨rfl, ?_⟩, fun n2 cls dx S' H' x' J l2 m' dd hxe => ?_⟩
  · exact hq _ H' S' ρ2 _ (I2.call (J.shutI hy hdy) hx0 m') ((m1.trans m2).trans m') (fun z => by
      have := Bool.and_eq_true_iff.mp z
      rw [c2 this.2, c1 this.1]) dn (hpost _ hpo)
  · rcases I2.tz with z | z
    · exact hW _ _ _ _ x' (hx x' hxe) (I2.xr n2 cls dx S' H' σ x' (I2.toSta.call (J.shutI hy hdy)) (Nat.le_trans l2 z) m' (fun _ _ => rfl) dd (hx x' hxe))
    · exact absurd (hx x' hxe) (z x')
end
end WL

/-! WY: errors as values: made, read, asked for their class. -/
namespace WL
open PySem PySem.Spec PyProof.Rows L2
/-- what is asked of an own error class -/
structure ErrC (K : PySem.W.Frag) (C : Addr) : Prop where
  ox : OexC K C
  xf : XfC K C
  xc : ExcC K C
theorem errB_ok {K : PySem.W.Frag} {C : Addr} (h : errB K C = true) : ErrC K C := by
  obtain ⟨h0, h⟩ := Bool.and_eq_true_iff.mp h
  obtain ⟨h1, h⟩ := Bool.and_eq_true_iff.mp h
  obtain ⟨h2, h⟩ := Bool.and_eq_true_iff.mp h
  obtain ⟨h3, h⟩ := Bool.and_eq_true_iff.mp h
  obtain ⟨h4, h⟩ := Bool.and_eq_true_iff.mp h
  obtain ⟨h5, h⟩ := Bool.and_eq_true_iff.mp h
  obtain ⟨h6, h⟩ := Bool.and_eq_true_iff.mp h
  obtain ⟨h7, h8⟩ := Bool.and_eq_true_iff.mp h
  have xf := xfB_ok h4
  refine ⟨⟨?_, of_decide_eq_true h1, xf.exC, of_decide_eq_true h2, h3⟩, xf, ⟨xf.ga, xf.gg, xf.exC, xf.hdC, of_decide_eq_true h5, of_decide_eq_true h6, of_decide_eq_true h7, of_decide_eq_true h8⟩⟩
  unfold oexB at h0
  split at h0
  · rename_i dd cd sl ho
    split at h0
    · rename_i C' bm k0 k1 k2 k3 n k5 hm hs
      simp only [Bool.and_eq_true, beq_iff_eq, Bool.not_eq_true'] at h0
      obtain ⟨⟨⟨⟨rfl, rfl⟩, hdel⟩, hdd⟩, ht⟩ := h0
      obtain ⟨nm, bs, mro, ns, qn, hd, sn, sub, ab, col, del⟩ := cd
      dsimp only at hm hdel hdd
      subst hm hdel hdd
      have hsl : sl = #[k0, k1, k2, k3, some (.builtin "ValueError.__new__"), k5] := by
        obtain ⟨l⟩ := sl
        simp only at hs
        rw [hs]
      subst hsl
      exact ⟨nm, qn, ns, bs, bm, sn, sub, ab, col, dd, k0, k1, k2, k3, k5, ho, ht⟩
    · cases h0
  · cases h0
/-- an error that is held -/
def Held (H : Hp) (a C : Addr) : Prop := H a = some (ExO (.ref C) a) ∨ (∃ dx fs, H a = some (exo a C (some dx)) ∧ H dx = some (exd dx fs)) ∨ ∃ dx : Option Addr, H a = some (exR a (.ref C) dx) ∧ ∀ d, dx = some d → ∃ fs, H d = some (.xd fs)
section
variable {X : Cx} {pins : List (Addr × Obj)} {σ : L2.St} {H : Hp} {s : Shared} {a C : Addr}
theorem held_inst (I : Inv X pins σ H s) (h : Held H a C) : ∃ oe od, PySem.W.InstAt s.heap a oe C od := by
  rcases h with h | ⟨dx, fs, h, hd⟩ | ⟨dx, h, hd⟩
  · obtain ⟨⟨oe, vs, ho, hz, hd, _⟩, _, _⟩ := (show ObjOk X.prog X.w H s.heap a (.ext _) from I.hok a _ h)
    exact ⟨oe, none, ho, hz.1, by unfold PySem.W.notCls; rw [hd] <;> rfl, by rw [hz.2]; trivial⟩
  · obtain ⟨t1, ho⟩ := exo_at I.hok h
    obtain ⟨mA, hns, _⟩ := exd_at I.hok hd
    obtain ⟨od, hod, _⟩ := lookIn_ns hns
    exact ⟨_, some od, ho, rfl, rfl, hod⟩
  · obtain ⟨oe, vs, ho, hz, hf⟩ := exR_at I.hok h
    cases dx with
    | none => exact ⟨oe, none, ho, hz.1, by unfold PySem.W.notCls; rw [hf] <;> rfl, by rw [hz.2]; trivial⟩
    | some d =>
      obtain ⟨fs, hx⟩ := hd d rfl
      obtain ⟨mA, hns, _⟩ := (show ObjOk X.prog X.w H s.heap d (.xd fs) from I.hok d _ hx)
      obtain ⟨od, hod, _⟩ := lookIn_ns hns
      exact ⟨oe, some od, ho, hz.1, by unfold PySem.W.notCls; rw [hf] <;> rfl, by rw [hz.2]; exact hod⟩
end
/-- isinstance(x, c), x an error that is held -/
def rIsX (K : PySem.W.Frag) : List V → Hp → VK → Prop := fun xs H Q => ∃ (a C : Addr) (c : V) (cv : Value) (b : Bool), xs = [.ref a, c] ∧ Held H a C ∧ ErrC K C ∧ (∀ u, RelV c u → u = cv) ∧ PySem.W.kitOne K (.ref C) cv = some b ∧ Q (.bl b) H
theorem call_isX {X : Cx} : CallR X (.builtin "isinstance") (rIsX X.K) := by
  intro pins s σ H xs us Q I r h
  obtain ⟨a, C, c, cv, b, rfl, hh, T, hcv, e, q⟩ := h
  obtain ⟨u1, u2, rfl, r1, r2⟩ := vals2 r
  obtain rfl : u1 = Value.ref a := r1
  have ec := hcv _ r2
  subst ec
  obtain ⟨oe, od, J⟩ := held_inst I hh
  have hcl : (PySem.W.clsIn X.K C).isSome = true := by
    obtain ⟨cd, hc, _⟩ := PySem.W.any_some T.xc.hd
    rw [hc]; rfl
  exact PySem.W.kia_one (PySem.W.kitx_exc hcl T.xc.hg T.xc.hk T.xc.hs T.xc.ha T.xc.hn T.xc.ht T.xc.hm) I.kIn J e (fun z => nomatch z) fun tk => ⟨.bl b, H, I.tok tk, rfl, q⟩
/-- err.n -/
def tXfv (K : PySem.W.Frag) (n : Str) (te : TE) : TE := fun σ H Q => te σ H fun x H1 => ∃ (a C dd : Addr) (fs : List (Str × V)) (v : V), x = .ref a ∧ XfC K C ∧ PySem.W.findIn K (.ref C) n = some none ∧ ((H1 a = some (exo a C (some dd)) ∧ H1 dd = some (exd dd fs)) ∨ (H1 a = some (exR a (.ref C) (some dd)) ∧ H1 dd = some (.xd fs))) ∧ fs.lookup n = some v ∧ Q v H1
theorem pe_xfv {X : Cx} {e : Expr} {te : TE} {pos : Pos} {n : Str} (he : PE X e te) (hb : attributeBase e n X.env (eval e X.env) = eval e X.env := by rfl) : PE X (.Attribute e n pos) (tXfv X.K n te) := by
  refine ⟨fun pins s σ H Q I h => ?_⟩
  refine attr_of hb (thn (he.run pins s σ H _ I h) fun u s1 hh => ?_)
  obtain ⟨x, H1, I1, rx, a, C, dd, fs, v, ex, T, hno, eb, l, q⟩ := hh
  subst ex
  obtain rfl : u = Value.ref a := rx
  obtain ⟨mA, hns, hr⟩ : ∃ mA, s1.heap.Ns1 dd mA ∧ ∀ f, RelO (fs.lookup f) (mA f) := by
    rcases eb with ⟨_, ed⟩ | ⟨_, ed⟩
    · exact exd_at I1.hok ed
    · exact (show ObjOk X.prog X.w H1 s1.heap dd (.xd fs) from I1.hok dd _ ed)
  obtain ⟨od, hod, hl⟩ := lookIn_ns hns
  obtain ⟨u, hu, ru⟩ := RelO.some_of (v := v) (o := mA n) (by rw [← l]; exact hr n)
  obtain ⟨oe, J⟩ : ∃ oe, PySem.W.InstAt s1.heap a oe C (some od) := by
    rcases eb with ⟨ea, _⟩ | ⟨ea, _⟩
    · obtain ⟨t1, ho⟩ := exo_at I1.hok ea
      exact ⟨_, ho, rfl, rfl, hod⟩
    · obtain ⟨oe, vs, ho, hz, hf⟩ := exR_at I1.hok ea
      exact ⟨oe, ho, hz.1, by unfold PySem.W.notCls; rw [hf] <;> rfl, by rw [hz.2]; exact hod⟩
  exact HandSPX.exc_get I1.kIn J T.ga T.gg T.exC (PySem.W.findObj_own T.hdC hno rfl (by rw [hl, hu])) (handed_of ru) ⟨v, H1, I1.tok _, ru, q⟩
section
variable {X : Cx} {k : Nat} {fI C : Addr} {fd : FuncData} {ps : List Str} {sp : Sp} {dvs : List V} {ds : List Value} {E : L2.St → XK} {x : Str} {p pos : Pos} {e : Expr} {es : List Expr} {ta : TA}
end
/-- what an error's __init__ promises: self.f = y -/
def spErr (K : PySem.W.Frag) (f : Str) : Sp := fun vs H Q _ => ∃ (a C : Addr) (y : V), vs = [.ref a, y] ∧ OexC K C ∧ PySem.W.findIn K (.ref C) f = some none ∧ H a = some (exo a C none) ∧ ∀ dx, H dx = none → dx ≠ a → Q .non (upd (upd H dx (exd dx [(f, y)])) a (exo a C (some dx)))
theorem fn_err {P : Program} {w : World} {K : PySem.W.Frag} {mg : Str → Option Value} {base : Heap} {x qual f n0 n1 : Str} {params : Arguments} {scope : Scope} {fI : Addr} {fd : FuncData} {body : List Stmt}
    (F : FunD K x qual params body scope [] [] fI fd) (Sc : FnScope [n0, n1] [n0, n1] scope)
    (hps : ∀ (cdv : Value) (A : Around) (outer : List Env) (s : Shared) (H : Hp) (E : XK), ∃ to te : TE, PSs (cxOf (L2.CX P w) P w K mg base [n0, n1] qual scope fI cdv A outer s H E) body (tOst K f to te) ∧ to = tVar 0 ∧ te = tVar 1) :
    FnG P w K mg base 1 fI fd [n0, n1] (spErr K f) := by
  refine FunD.okG (k := 0) F Sc (fun vs H Q E ⟨a, C, y, e, _⟩ => by rw [e]; rfl) fun cdv A outer s H vs Q E hr gd h => ?_
  obtain ⟨to, te, p, rfl, rfl⟩ := hps cdv A outer s H E
  refine ⟨_, p, ?_⟩
  obtain ⟨a, C, y, rfl, T, hno, ha, q⟩ := h
  refine ⟨y, rfl, .ref a, rfl, a, C, rfl, T, hno, .inl ⟨ha, q⟩⟩
end WL

/-! WZ: errors as values, over data; what the program's error classes must say. -/
namespace WL
open PySem PySem.Spec PyProof.Rows L2
/-- the error classes: ns names them (and their attribute, if any); the first is the base of all others, which stand directly under it -/
structure ErTb (G : Glob) (K : PySem.W.Frag) (mg : Str → Option Value) (ns : List (Str × Option Str)) : Prop where
  ec : ∀ c x fl, ns[c]? = some (x, fl) → ∃ C, mg x = some (.ref C) ∧ G.ec c = some (C, fl) ∧ ErrC K C ∧ PySem.W.kitOne K (.ref C) (.type "ValueError") = some true ∧
    (fl = none → PySem.W.excIn K C He.veBase "ValueError.__new__" = true) ∧ (∀ f, fl = some f → PySem.W.findIn K (.ref C) f = some none) ∧
    ∀ d y gl D, ns[d]? = some (y, gl) → mg y = some (.ref D) → PySem.W.kitOne K (.ref C) (.ref D) = some (c == d || d == 0)
  inv : ∀ c C fl, G.ec c = some (C, fl) → ∃ x, ns[c]? = some (x, fl)
theorem Den.exc_held {G : Glob} {K : PySem.W.Frag} {S : Fz} {H : Hp} {v : V} {c : Nat} {fs : List D} (h : Den G K S v (.exc c fs)) (le : ∀ a o, S a = some o → H a = some o) : ∃ a C fl, v = .ref a ∧ G.ec c = some (C, fl) ∧ Held H a C := by
  cases h with
  | exc0 h e => exact ⟨_, _, _, rfl, h, .inl (le _ _ e)⟩
  | exc1 h e g _ => exact ⟨_, _, _, rfl, h, .inr (.inl ⟨_, _, le _ _ e, le _ _ g⟩)⟩
  | excR0 h e => exact ⟨_, _, _, rfl, h, .inr (.inr ⟨none, le _ _ e, fun _ z => nomatch z⟩)⟩
  | excR1 h e g _ => exact ⟨_, _, _, rfl, h, .inr (.inr ⟨some _, le _ _ e, fun d z => by cases z; exact ⟨_, le _ _ g⟩⟩)⟩
theorem ROk.exc {G : Glob} {K : PySem.W.Frag} {B : Bs} {S : Fz} {H : Hp} {σ : L2.St} {ρ : EnvD} {v : V} {c : Nat} {fs : List D} {k : Kd} (r : ROk G K B S H σ ρ v (.exc c fs) k) : Den G K S v (.exc c fs) := by
  cases k with
  | st => exact r
  | fr => obtain ⟨a, o, _, e2, _⟩ := r; cases o <;> simp [Own.d] at e2
  | bo j => obtain ⟨a, o, _, e2, _⟩ := r; cases o <;> simp [Own.d] at e2
def opIsE (d : Nat) (x : D) (P : D → Prop) : Prop := match x with
  | .exc c _ => P (.bl (c == d || d == 0))
  | _ => False
def opIsV (x : D) (P : D → Prop) : Prop := match x with
  | .exc _ _ => P (.bl true)
  | _ => False
def opXf (ns : List (Str × Option Str)) (n : Str) (x : D) (P : D → Prop) : Prop := match x with
  | .exc c [y] => (ns[c]?.bind (·.2)) = some n ∧ P y
  | _ => False
def fErr0 (c : Nat) (fa : FE) : FE := fun ρ Kc => fa ρ fun ρ1 _ => Kc ρ1 (.exc c [])
def fErr1 (c : Nat) (fa : FE) : FE := fun ρ Kc => fa ρ fun ρ1 y => Kc ρ1 (.exc c [y])
section
variable {G : Glob} {X : Cx} {O : XO} {e : Expr} {k ka : Kd} {ca : Bool} {na : Nat} {fa : FE} {p p2 pos : Pos} {x y : Str} {fl : Option Str} {ns : List (Str × Option Str)}
theorem e_isE (d : Nat) (T : ErTb G X.K X.mg ns) (ha : PDe G X O e ka ca na fa) (hm : X.mg "isinstance" = none) (hd : ns[d]? = some (y, fl) := by rfl) (hg : Gl X "isinstance" := by rfl) (hgT : Gl X y := by rfl)
    (he : starEach [e, .Name y p2] X.env = (false, eval e X.env) :: starEach [.Name y p2] X.env := by rfl) (he2 : starEach [.Name y p2] X.env = (false, eval (.Name y p2) X.env) :: starEach [] X.env := by rfl) (hpl : (backTo pos (starEach [.Name y p2] X.env)).any (·.1) = false := by rfl)
    (hdb : (y == ("__debug__" : Str)) = false := by decide) : PDe G X O (.Call (.Name "isinstance" p) [e, .Name y p2] [] pos) .st ca na (fUn (opIsE d) fa) := by
  obtain ⟨ta, pa, qa⟩ := ha.run
  obtain ⟨D, hD, _⟩ := T.ec d y fl hd
  refine ⟨_, pe_callB call_isX hg hm (by rfl) (pa_cons pa (pa_cons (pe_glob (v := .ref D) hgT hD rfl hdb) pa_nil he2) he) (by decide) (by decide) he hpl, fun B S H σ ρ Kc Q I hb hf hq => ?_⟩
  refine qa B S H σ ρ _ _ I (by omega) hf fun v H1 S1 ρ1 d1 I1 m1 c1 r1 h1 => ?_
  unfold opIsE at h1
  split at h1
  · rename_i c fs
    obtain ⟨a, C, fl', rfl, hc, hh⟩ := r1.exc.exc_held I1.le
    obtain ⟨x, hx⟩ := T.inv c C fl' hc
    obtain ⟨C', _, hc', E, _, _, _, hk⟩ := T.ec c x fl' hx
    rw [hc] at hc'; cases hc'
    exact ⟨a, C, .ref D, .ref D, _, rfl, hh, E, fun u r => r, hk d y fl D hd hD, hq _ H1 S1 ρ1 _ I1 m1 c1 (Den.bl _) h1⟩
  · exact h1.elim
theorem e_xf {n : Str} (T : ErTb G X.K X.mg ns) (ha : PDe G X O e ka ca na fa) (hb : attributeBase e n X.env (eval e X.env) = eval e X.env := by rfl) : PDe G X O (.Attribute e n pos) .st ca na (fUn (opXf ns n) fa) := by
  obtain ⟨ta, pa, qa⟩ := ha.run
  refine ⟨_, pe_xfv pa hb, fun B S H σ ρ Kc Q I hb hf hq => ?_⟩
  refine qa B S H σ ρ _ _ I (by omega) hf fun v H1 S1 ρ1 d1 I1 m1 c1 r1 h1 => ?_
  unfold opXf at h1
  split at h1
  · rename_i c y
    obtain ⟨h0, h1⟩ := h1
    have r := r1.exc
    cases r with
    | @exc1 a C dx _ f v _ hc e g dn =>
      obtain ⟨x, hx⟩ := T.inv c C (some f) hc
      obtain ⟨C', _, hc', E, _, _, hno, _⟩ := T.ec c x (some f) hx
      rw [hc] at hc'; cases hc'
      rw [hx] at h0
      have h0 : some f = some n := h0
      cases h0
      exact ⟨a, C, dx, _, v, rfl, E.xf, hno n rfl, .inl ⟨I1.le _ _ e, I1.le _ _ g⟩, by simp [List.lookup], hq _ H1 S1 ρ1 _ I1 m1 c1 dn h1⟩
    | @excR1 a C dx _ f v _ hc e g dn =>
      obtain ⟨x, hx⟩ := T.inv c C (some f) hc
      obtain ⟨C', _, hc', E, _, _, hno, _⟩ := T.ec c x (some f) hx
      rw [hc] at hc'; cases hc'
      rw [hx] at h0
      have h0 : some f = some n := h0
      cases h0
      exact ⟨a, C, dx, _, v, rfl, E.xf, hno n rfl, .inr ⟨I1.le _ _ e, I1.le _ _ g⟩, by simp [List.lookup], hq _ H1 S1 ρ1 _ I1 m1 c1 dn h1⟩
  · exact h1.elim
/-- an error class with its own __init__, which sets its attribute -/
structure MkE (P : Program) (w : World) (K : PySem.W.Frag) (mg : Str → Option Value) (base : Heap) (x f : Str) : Prop where
  ex : ∀ C, mg x = some (.ref C) → ∃ (fI : Addr) (fd : FuncData) (n0 n1 : Str), PySem.W.findIn K (.ref C) "__init__" = some (some (.ref fI)) ∧ PySem.W.typeIn K (.ref fI) = some (.type "function") ∧ FnG P w K mg base 1 fI fd [n0, n1] (spErr K f) ∧ Binds K fd [n0, n1] []
end

/-! ### the end of the top says more -/
section
variable {fx : List (PySem.W.Frag → Bool)} {fa : List He.Fa} {fn : List He.DefD} {K : PySem.W.Frag}
theorem SaysX.d (c : SaysX fx fa fn K) : He.SaysD fa fn K := congrArg (fun z : AlX => z.2) c
theorem SaysX.x (c : SaysX fx fa fn K) (i : Nat) {f : PySem.W.Frag → Bool} (h : fx[i]? = some f := by rfl) : f K = true :=
  List.all_eq_true.mp (show (fx.all fun f => f K) = true from congrArg (fun z : AlX => z.1) c) f (List.mem_of_getElem? h)
end
theorem erTb_ok {G : Glob} {K : PySem.W.Frag} {h : Heap} {mg : Str → Option Value} {ns : List (Str × Option Str)} (X : K.In h) (Gn : h.Ns mainGlobals mg) (e : G.ec = ecOf K ns) (c : erTbB ns K = true) : ErTb G K mg ns := by
  have one : ∀ (i : Nat) (p : Str × Option Str), ns[i]? = some p → erOne K ns i p = true := fun i p h => by
    have := List.all_eq_true.mp c i (List.mem_range.mpr (List.getElem?_eq_some_iff.mp h).1)
    rw [h] at this
    exact this
  have gl : ∀ (i : Nat) (x : Str) (fl : Option Str), ns[i]? = some (x, fl) → mg x = some (.ref (He.ga K x)) := fun i x fl h => by
    obtain ⟨h0, _⟩ := He.ba (one i _ h)
    exact PySem.W.mg_of X Gn (He.eqO_ok h0)
  refine ⟨fun i x fl h => ?_, fun i C fl h => ?_⟩
  · obtain ⟨h0, h1⟩ := He.ba (one i _ h)
    obtain ⟨h1, h2⟩ := He.ba h1
    obtain ⟨h2, h3⟩ := He.ba h2
    obtain ⟨h3, h4⟩ := He.ba h3
    refine ⟨He.ga K x, gl i x fl h, by rw [e]; unfold ecOf; rw [h]; rfl, errB_ok h1, of_decide_eq_true h2, fun z => ?_, fun f z => ?_, fun d y gl' D hd hm => ?_⟩
    · subst z; exact h3
    · subst z; exact of_decide_eq_true h3
    · have := List.all_eq_true.mp h4 d (List.mem_range.mpr (List.getElem?_eq_some_iff.mp hd).1)
      rw [hd] at this
      rw [gl d y gl' hd] at hm
      cases hm
      exact of_decide_eq_true this
  · rw [e] at h
    unfold ecOf at h
    cases q : ns[i]? with
    | none => rw [q] at h; cases h
    | some p =>
      rw [q] at h
      obtain ⟨x, fl'⟩ := p
      simp at h
      exact ⟨x, by rw [h.2]⟩
end WL

/-! XA: what is never reached; the own classes: what they must say, isinstance. -/
namespace WL
open PySem PySem.Spec PyProof.Rows L2
section
variable {G : Glob} {X : Cx} {O : XO} {rk : Bool} {st : Stmt} {e : Expr} {k : Kd} {c : Bool}
/-- a row that is never reached -/
def fNever : FS := fun _ _ => False
def fNo : FE := fun _ _ => False
end
/-- what isinstance asks of the class of an instance -/
structure InsC (K : PySem.W.Frag) (C : Addr) : Prop where
  ha : PySem.W.findIn K (.ref C) "__class__" = some (some (.builtin "object.__class__"))
  hn : PySem.W.specialIn K (.builtin "object.__class__") "__get__" = some (some (.builtin "getset_descriptor.__get__"))
  ht : PySem.W.takesIn K (.builtin "object.__class__") = some true
  hm : PySem.W.mroIn K C (.type "object") = some true
/-- the own classes: cs names them and the attributes of their instances; fs: names of attributes that stand in no class -/
structure ClTb (G : Glob) (K : PySem.W.Frag) (mg : Str → Option Value) (cs : List (Str × List Str)) (fs : List Str) : Prop where
  ct : ∀ c x ns, cs[c]? = some (x, ns) → ∃ C, mg x = some (.ref C) ∧ G.ct c = some (C, ns) ∧ ns.Nodup ∧ Cls K C ∧ InsC K C ∧ (∀ f ∈ fs, NoAttr K C f) ∧ (∀ t ∈ tyNs, PySem.W.kitOne K (.type t) (.ref C) = some false) ∧
    ∀ d y ms D, cs[d]? = some (y, ms) → mg y = some (.ref D) → PySem.W.kitOne K (.ref C) (.ref D) = some (c == d)
  inv : ∀ c C ns, G.ct c = some (C, ns) → ∃ x, cs[c]? = some (x, ns)
theorem clTb_ok {G : Glob} {K : PySem.W.Frag} {h : Heap} {mg : Str → Option Value} {cs : List (Str × List Str)} {fs : List Str} (X : K.In h) (Gn : h.Ns mainGlobals mg) (e : G.ct = ctOf K cs) (c : clTbB cs fs K = true) : ClTb G K mg cs fs := by
  have one : ∀ (i : Nat) (p : Str × List Str), cs[i]? = some p → clOne cs fs K i p = true := fun i p h => by
    have := List.all_eq_true.mp c i (List.mem_range.mpr (List.getElem?_eq_some_iff.mp h).1)
    rw [h] at this
    exact this
  have gl : ∀ (i : Nat) (x : Str) (ns : List Str), cs[i]? = some (x, ns) → mg x = some (.ref (He.ga K x)) := fun i x ns h => by
    obtain ⟨h0, _⟩ := He.ba (one i _ h)
    exact PySem.W.mg_of X Gn (He.eqO_ok h0)
  refine ⟨fun i x ns h => ?_, fun i C ns h => ?_⟩
  · obtain ⟨h0, h1⟩ := He.ba (one i _ h)
    obtain ⟨h1, h2⟩ := He.ba h1
    obtain ⟨h2, h3⟩ := He.ba h2
    obtain ⟨h3, h4⟩ := He.ba h3
    obtain ⟨a1, h3⟩ := He.ba h3
    obtain ⟨a2, h3⟩ := He.ba h3
    obtain ⟨a3, a4⟩ := He.ba h3
    obtain ⟨h4, h5⟩ := He.ba h4
    obtain ⟨h5, h6⟩ := He.ba h5
    refine ⟨He.ga K x, gl i x ns h, by rw [e]; unfold ctOf; rw [h]; rfl, of_decide_eq_true h1, He.cls_ok h2, ⟨of_decide_eq_true a1, of_decide_eq_true a2, of_decide_eq_true a3, of_decide_eq_true a4⟩, fun f hf => He.noat_ok (List.all_eq_true.mp h4 f hf), fun t ht => of_decide_eq_true (List.all_eq_true.mp h5 t ht), fun d y ms D hd hm => ?_⟩
    have := List.all_eq_true.mp h6 d (List.mem_range.mpr (List.getElem?_eq_some_iff.mp hd).1)
    rw [hd] at this
    rw [gl d y ms hd] at hm
    cases hm
    exact of_decide_eq_true this
  · rw [e] at h
    unfold ctOf at h
    cases q : cs[i]? with
    | none => rw [q] at h; cases h
    | some p =>
      rw [q] at h
      obtain ⟨x, ns'⟩ := p
      simp at h
      exact ⟨x, by rw [h.2]⟩
theorem ClTb.at_ {G : Glob} {K : PySem.W.Frag} {mg : Str → Option Value} {cs : List (Str × List Str)} {fs : List Str} {f : Str} {at_ : Nat → Option Nat} (T : ClTb G K mg cs fs) (hf : f ∈ fs) (h : ∀ c i, at_ c = some i → ∃ x ns, cs[c]? = some (x, ns) ∧ ns[i]? = some f) : AtOk G K f at_ :=
  ⟨fun c i e => by
    obtain ⟨x, ns, h1, h2⟩ := h c i e
    obtain ⟨C, _, hc, nd, cl, _, na, _⟩ := T.ct c x ns h1
    exact ⟨C, ns, hc, h2, nd, cl, na f hf⟩⟩
theorem ClTb.fld {G : Glob} {K : PySem.W.Frag} {mg : Str → Option Value} {cs : List (Str × List Str)} {fs : List Str} {f : Str} (T : ClTb G K mg cs fs) (hf : f ∈ fs) : ∀ c C ns, G.ct c = some (C, ns) → Cls K C ∧ NoAttr K C f := fun c C ns e => by
  obtain ⟨x, h⟩ := T.inv c C ns e
  obtain ⟨C', _, hc, _, cl, _, na, _⟩ := T.ct c x ns h
  rw [e] at hc; cases hc
  exact ⟨cl, na f hf⟩
def opIsC (d : Nat) (x : D) (P : D → Prop) : Prop := match x with
  | .ins c _ => P (.bl (c == d))
  | y => (tyN y).isSome = true ∧ P (.bl false)
theorem ROk.ins {G : Glob} {K : PySem.W.Frag} {B : Bs} {S : Fz} {H : Hp} {σ : L2.St} {ρ : EnvD} {v : V} {c : Nat} {fs : List D} {k : Kd} (r : ROk G K B S H σ ρ v (.ins c fs) k) : Den G K S v (.ins c fs) := by
  cases k with
  | st => exact r
  | fr => obtain ⟨a, o, _, e2, _, hc, _⟩ := r; cases o <;> simp [Own.d, Own.con] at e2 hc
  | bo j => obtain ⟨a, o, _, e2, _, hc⟩ := r; cases o <;> simp [Own.d, Own.con] at e2 hc
section
variable {G : Glob} {X : Cx} {O : XO} {e : Expr} {k ka : Kd} {ca : Bool} {na : Nat} {fa : FE} {p p2 pos : Pos} {x y : Str} {ms : List Str} {cs : List (Str × List Str)} {fs : List Str}
theorem e_isC (d : Nat) (T : ClTb G X.K X.mg cs fs) (ha : PDe G X O e ka ca na fa) (hm : X.mg "isinstance" = none) (hd : cs[d]? = some (y, ms) := by rfl) (hg : Gl X "isinstance" := by rfl) (hgT : Gl X y := by rfl)
    (he : starEach [e, .Name y p2] X.env = (false, eval e X.env) :: starEach [.Name y p2] X.env := by rfl) (he2 : starEach [.Name y p2] X.env = (false, eval (.Name y p2) X.env) :: starEach [] X.env := by rfl) (hpl : (backTo pos (starEach [.Name y p2] X.env)).any (·.1) = false := by rfl)
    (hdb : (y == ("__debug__" : Str)) = false := by decide) : PDe G X O (.Call (.Name "isinstance" p) [e, .Name y p2] [] pos) .st ca na (fUn (opIsC d) fa) := by
  obtain ⟨ta, pa, qa⟩ := ha.run
  obtain ⟨D, hD, _, _, _, _, _, hty, _⟩ := T.ct d y ms hd
  refine ⟨_, pe_callB call_isiG hg hm (by rfl) (pa_cons pa (pa_cons (pe_glob (v := .ref D) hgT hD rfl hdb) pa_nil he2) he) (by decide) (by decide) he hpl, fun B S H σ ρ Kc Q I hb hf hq => ?_⟩
  refine qa B S H σ ρ _ _ I (by omega) hf fun v H1 S1 ρ1 d1 I1 m1 c1 r1 h1 => ?_
  have plain : ∀ (t : String), tyN d1 = some t → Kc ρ1 (.bl false) → ∃ x c, [v, .ref D] = [x, c] ∧ rIsiG X.K x c H1 Q := fun t et h => ⟨v, .ref D, rfl, .type t, .ref D, false, .own D, tyN_ok I1 r1 et, hty t (tyN_mem et), hq _ H1 S1 ρ1 _ I1 m1 c1 (Den.bl _) h⟩
  unfold opIsC at h1
  split at h1
  · rename_i c gs
    have r := r1.ins
    cases r with
    | @ins a C dx vs _ ns _ h hct hn hl hdn =>
      obtain ⟨z, hz⟩ := T.inv c C ns hct
      obtain ⟨C', _, hct', _, cl, ic, _, _, hk⟩ := T.ct c z ns hz
      rw [hct] at hct'; cases hct'
      exact ⟨.ref a, .ref D, rfl, .ref C, .ref D, _, .own D, .inl (.base (.ins (I1.le _ _ h) cl ic.ha ic.hn ic.ht ic.hm)), hk d y ms D hd hD, hq _ H1 S1 ρ1 _ I1 m1 c1 (Den.bl _) h1⟩
  · obtain ⟨h0, h1⟩ := h1
    obtain ⟨t, et⟩ := Option.isSome_iff_exists.mp h0
    exact plain t et h1
end

/-! ### own classes: made, methods, properties -/
section
variable {G : Glob} {P : Program} {w : World} {K : PySem.W.Frag} {mg : Str → Option Value} {base : Heap} {h : Heap} {cs : List (Str × List Str)} {fs : List Str} {x : Str} {ns : List Str} {k c : Nat} {m : Spc}
theorem mkMt {ps : List Str} {nm : Str} {fd : FuncData} {qual : Str} {params : Arguments} {body : List Stmt} {scope : Scope} {rk : Bool} (T : ClTb G K mg cs fs) (hc : cs[c]? = some (x, ns)) (hgl : mg x = some (.ref (He.ga K x))) (hnm : nm ∉ ns) (M : (He.Fa.meth x nm).ok K = true) (Df : FunD K nm qual params body scope [] [] (He.ma K (He.ga K x) nm) fd)
    (F : FnG P w K mg base k (He.ma K (He.ga K x) nm) fd ps (spD G K rk ps.length m)) (har : ps.length = m.ar)
    (hb : ∀ (kV doc pm : Value) (an : Option Addr) (cdv ct : Value) (us : List Value), us.length = ps.length → bindArgs (PySem.W.fnOf nm qual params body scope .none kV doc pm an cdv ct) ⟨us, []⟩ = pure (ps.zip us)) : Mt G P w K mg base c nm k rk m [] := by
  obtain ⟨C, hm, hct, _, cl, _⟩ := T.ct c x ns hc
  rw [hgl] at hm; cases hm
  exact ⟨_, _, fd, ps, [], [], ns, F, hct, hnm, cl, He.meth_ok M, Df.bindsN hb, .nil, fun _ => .nil, har⟩
end
theorem propB_ok {K : PySem.W.Frag} {x nm : Str} (h : propB x nm K = true) : PropOf K (He.ga K x) nm (He.ma K (He.ga K x) nm) (pga K x nm) := by
  obtain ⟨h1, h⟩ := He.ba h
  obtain ⟨h2, h⟩ := He.ba h
  obtain ⟨h3, h4⟩ := He.ba h
  refine ⟨He.eqO_ok h1, of_decide_eq_true h2, of_decide_eq_true h3, ?_⟩
  unfold pga
  split at h4
  · rename_i g r e
    exact ⟨r, by rw [e]⟩
  · cases h4

/-! ### defs found by a path of one's own (getters of properties) -/
theorem funDA {K : PySem.W.Frag} {a : Addr} {d : He.DefD} (e : fnWA K a = d.val) (c : okA K a d = true) : ∃ fd, FunD K d.name d.qual d.params d.body d.scope (d.dvs K) (d.kws K) a fd := by
  obtain ⟨kp, c2⟩ := He.ba c
  unfold fnWA at e
  cases q : K.lookup a with
  | none =>
    rw [q] at c2
    cases c2
  | some o =>
    obtain ⟨oc, od, dt, osl⟩ := o
    rw [q] at c2 e
    cases dt with
    | func fd =>
      obtain ⟨n1, n2, n3, n4, n5, n6, n7, n8, n9, n10, n11, n12, n13, n14, n15⟩ := fd
      have e2 : (some (n1, n2, n3, n4, n5, n6, n7, n15) : He.FnW) = some (d.name, d.qual, d.params, .stmts d.body, d.scope, mainGlobals, [], builtinsNs) := e
      simp only [Option.some.injEq, Prod.mk.injEq] at e2
      obtain ⟨h1, h2, h3, h4, h5, h6, h7, h8⟩ := e2
      subst h1 h2 h3 h4 h5 h6 h7 h8
      have c3 : (PySem.W.codeIn K n13 d.qual && (He.dflB K n8 (d.dvs K) && He.kwdB K n9 (d.kws K))) = true := c2
      obtain ⟨k1, k2⟩ := He.ba c3
      obtain ⟨k3, k4⟩ := He.ba k2
      exact ⟨_, ⟨oc, od, n8, n9, n10, n11, n12, n13, n14, osl, rfl, q, k1, He.dflB_ok k3, He.kwdB_ok k4⟩, kp⟩
    | _ => cases c2
section
variable {fx : List (PySem.W.Frag → Bool)} {fp : List Fp} {fa : List He.Fa} {fn : List He.DefD} {K : PySem.W.Frag}
theorem SaysY.sx (c : SaysY fx fp fa fn K) : SaysX (fpOk fp :: fx) fa fn K := congrArg (fun z : AlY => z.2) c
theorem SaysY.d (c : SaysY fx fp fa fn K) : He.SaysD fa fn K := c.sx.d
theorem SaysY.x (c : SaysY fx fp fa fn K) (i : Nat) {f : PySem.W.Frag → Bool} (h : fx[i]? = some f := by rfl) : f K = true := c.sx.x (i + 1) h
theorem SaysY.p (c : SaysY fx fp fa fn K) (i : Nat) {q : Fp} (h : fp[i]? = some q := by rfl) : ∃ fd, FunD K q.2.name q.2.qual q.2.params q.2.body q.2.scope (q.2.dvs K) (q.2.kws K) (q.1 K) fd := by
  have c2 := c.sx.x 0 (f := fpOk fp) rfl
  have e : fp.map (fun p => fnWA K (p.1 K)) = fp.map fun p => p.2.val := congrArg (fun z : AlY => z.1) c
  have e2 : (fp.map fun p => fnWA K (p.1 K))[i]? = (fp.map fun p => p.2.val)[i]? := by rw [e]
  rw [List.getElem?_map, List.getElem?_map, h] at e2
  exact funDA (Option.some.inj e2) (List.all_eq_true.mp c2 q (List.mem_of_getElem? h))
end
section
variable {G : Glob} {P : Program} {w : World} {K : PySem.W.Frag} {mg : Str → Option Value} {base : Heap} {cs : List (Str × List Str)} {fs : List Str} {x : Str} {ns : List Str} {k c : Nat} {m : Spc}
theorem mkPr {pn nm : Str} {fd : FuncData} {qual : Str} {params : Arguments} {body : List Stmt} {scope : Scope} {rk : Bool} (T : ClTb G K mg cs fs) (hc : cs[c]? = some (x, ns)) (hgl : mg x = some (.ref (He.ga K x))) (hp : propB x nm K = true) (Df : FunD K nm qual params body scope [] [] (pga K x nm) fd)
    (F : FnG P w K mg base k (pga K x nm) fd [pn] (spD G K rk 1 m)) (hex : ∀ ds y, ¬ m.exc ds y)
    (hb : ∀ (kV doc pm : Value) (an : Option Addr) (cdv ct : Value) (us : List Value), us.length = [pn].length → bindArgs (PySem.W.fnOf nm qual params body scope .none kV doc pm an cdv ct) ⟨us, []⟩ = pure ([pn].zip us)) : Pr G P w K mg base c nm k rk m := by
  obtain ⟨C, hm, hct, _, cl, _⟩ := T.ct c x ns hc
  rw [hgl] at hm; cases hm
  exact ⟨_, _, _, fd, pn, ns, F, hct, cl, propB_ok hp, Df.bindsN hb, hex⟩
end
end WL

/-! XB: sorted. -/
namespace WL
open PySem PySem.Spec PyProof.Rows L2
section
variable {X : Cx}
/-- sorted(t) of a tuple with fewer than 64 texts -/
theorem call_sortedTup : CallR X (.builtin "sorted") (fun xs H Q => ∃ (a : Addr) (ks : List Str), xs = [.ref a] ∧ SqT X.K H a (ks.map V.str) ∧ ks.length < 64 ∧
    ∀ ys p, ys.Perm ks → sortedS ys = true → H p = none → Q (.ref p) (upd H p (.lst (ys.map V.str)))) := by
  intro pins s σ H xs us Q I r q
  obtain ⟨a, ks, ex, ha, h64, q⟩ := q
  subst ex
  obtain ⟨u, eu, rx⟩ := vals1 r
  subst eu
  obtain rfl : u = Value.ref a := rx
  obtain ⟨its, rv, ⟨o, h1, h2, n, h3⟩, _⟩ := I.tuple ha
  have hS : StrsAre its ks := rv.strs
  have hal : its.length = ks.length := by rw [← rv.length, List.length_map]
  refine Calls.call_function_entry PyProof.Rows.kind_sorted PyProof.Rows.plain_sorted PyProof.Rows.entry_sorted (PyProof.Rows.args_sorted1 _) ?_
  unfold Builtin.«sorted»
  refine wpAny_bind (m := checkCount "sorted" 1 1 _) (wpAny_pure ?_)
  refine wpAny_bind (wpAny_collect_seq a (.inr rfl) h1 h2 h3 (fun h' hk => ?_) (by rw [List.size_toArray, hal, sizeLine_eq]; omega))
  have I1 : Inv X pins σ H { s with heap := h' } := I.kept hk
  refine wpAny_bind (wpAny_newList ?_ (by rw [hal, sizeLine_eq]; omega))
  have hoL : (h'.push (seqObj "list" its.toArray 0)).get? h'.objs.size = some (seqObj "list" its.toArray 0) := Heap.get?_push_size _ rfl
  show wpAny _ _ _ _ _ { s with heap := h'.push (seqObj "list" its.toArray 0) }
  refine wpAny_bind (wpAny_holding (wpAny_call_entry PyProof.Rows.slot_list_sort ⟨_, hoL, rfl⟩ PyProof.Rows.entry_list_sort
    (list_sort_treeK strKind_oneLt (s := { s with heap := h'.push (seqObj "list" its.toArray 0) }) hoL hS.keysOf (fun v₁ v₂ rest e => keyKind_strs (by rw [← e]; exact hS)) (by rw [hal]; exact h64) fun st' hp hs => ⟨_, rfl, ?_⟩)
    (PyProof.Rows.args_list_sort _)))
  obtain ⟨ys, g1, g2, g3⟩ := sorted_out_str hS hp hs
  obtain ⟨e', he'⟩ := PyProof.Rows.sortedHeap_at (vs := its) (out := (arrOf st').map (·.2)) hoL
  have hlen : (ys.map V.str).length ≤ sizeLine := by
    rw [List.length_map, g2.length_eq]
    exact Nat.le_trans (Nat.le_of_lt h64) (by decide)
  refine wpAny_pure ⟨_, rfl, .ref h'.objs.size, upd H h'.objs.size (.lst (ys.map V.str)), I1.laid (t' := s.toks) (fun b u e => ?_) (Nat.le_refl _)
    (show ObjOk X.prog X.w _ _ _ (.lst (ys.map V.str)) from ⟨hlen, ((arrOf st').map (·.2)).toList, e', vals_of_strs g1, by rw [Array.toArray_toList]; exact he'⟩), rfl, q ys _ g2 g3 (I1.hok.fresh (Nat.le_refl _))⟩
  have hb : b < h'.objs.size := Heap.lt_size e
  rw [PyProof.Rows.sortedHeap_old (Nat.ne_of_lt hb) (by rw [size_push']; exact Nat.lt_succ_of_lt hb)]
  exact Heap.get?_push_of_some _ e
/-- of a list, a tuple, a dict's keys: texts -/
abbrev rSrt (K : PySem.W.Frag) : V → Hp → VK → Prop := fun x H Q => ∃ (a : Addr) (ks : List Str), x = .ref a ∧ (SqL K H a (ks.map V.str) ∨ SqT K H a (ks.map V.str) ∨ ∃ kvs : List (Key × V), Rd H a (.dK kvs) ∧ kvs.map (·.1) = ks.map Sum.inr) ∧ ks.length < 64 ∧
  ∀ ys p, ys.Perm ks → sortedS ys = true → H p = none → Q (.ref p) (upd H p (.lst (ys.map V.str)))
theorem call_srt (hc : X.calm = true) : CallR X (.builtin "sorted") (fun xs H Q => ∃ x, xs = [x] ∧ rSrt X.K x H Q) := by
  intro pins s σ H xs us Q I r h
  obtain ⟨x, rfl, a, ks, rfl, h | h | ⟨kvs, h, hk⟩, h64, q⟩ := h
  · exact cr_sortedS pins s σ H _ us Q I r ⟨a, ks, rfl, h, h64, q⟩
  · exact call_sortedTup pins s σ H _ us Q I r ⟨a, ks, rfl, h, h64, q⟩
  · exact call_sortedD hc pins s σ H _ us Q I r ⟨a, kvs, ks, rfl, h, hk, h64, q⟩
end
theorem den_strs {G : Glob} {K : PySem.W.Frag} {S : Fz} : ∀ ns : List Str, DenL G K S (ns.map V.str) (ns.map D.str)
  | [] => .nil
  | n :: ns => .cons (.str n) (den_strs ns)
theorem den_strs_inv {G : Glob} {K : PySem.W.Frag} {S : Fz} : ∀ {ns : List Str} {vs : List V}, DenL G K S vs (ns.map D.str) → vs = ns.map V.str
  | [], _, h => by cases h; rfl
  | n :: ns, _, h => by
    cases h with
    | cons r t => rw [den_strs_inv t, Den.str_inv r]; rfl
theorem denK_strs {G : Glob} {K : PySem.W.Frag} {S : Fz} : ∀ {ns : List Str} {kvs : List (Key × V)} {ps : List (D × D)}, DenK G K S kvs ps → ps.map (·.1) = ns.map D.str → kvs.map (·.1) = ns.map Sum.inr
  | ns, _, _, .nil, e => by
    cases ns with
    | nil => rfl
    | cons n ns => cases e
  | ns, k :: kvs, p :: ps, .cons r t, e => by
    cases ns with
    | nil => cases e
    | cons n ns =>
      simp only [List.map_cons, List.cons.injEq] at e ⊢
      refine ⟨?_, denK_strs t e.2⟩
      obtain ⟨k1, kv⟩ := k
      have h1 := r.1
      rw [e.1] at h1
      cases k1 <;> simp [keyD] at h1 ⊢
      exact h1.symm
/-- the texts that sorted looks at -/
def srtOf : D → List D
  | .lst xs => xs
  | .tup xs => xs
  | .dct ps => ps.map (·.1)
  | .wtp xs => xs
  | _ => [.non]
def opSrt (x : D) (P : D → Prop) : Prop := ∃ ss : List Str, srtOf x = ss.map D.str ∧ ss.length < 64 ∧ ∀ ys : List Str, ys.Perm ss → sortedS ys = true → P (.lst (ys.map D.str))
section
variable {G : Glob} {X : Cx} {O : XO} {e : Expr} {k ka : Kd} {ca : Bool} {na : Nat} {fa : FE} {p pos : Pos}
theorem s_srt : R1s G X O (rSrt X.K) opSrt .fr := by
  intro B S H σ ρ ka v x Kc Q I r h hq
  obtain ⟨ss, e, h64, h⟩ := h
  have fin : ∀ ys p, ys.Perm ss → sortedS ys = true → H p = none → Q (.ref p) (upd H p (.lst (ys.map V.str))) := fun ys p h1 h2 hp => by
    obtain ⟨I', r'⟩ := I.lays (u := .lst (ys.map V.str)) (o := .lst (ys.map D.str)) hp ⟨_, upd_same, den_strs ys⟩
    exact hq _ _ _ _ I' (Sub.refl _) r' (h ys h1 h2)
  cases x with
  | lst xs =>
    obtain ⟨a, vs, rfl, ha, la⟩ := r.lst I
    have e : xs = ss.map D.str := e
    subst e
    obtain rfl := den_strs_inv la
    exact ⟨a, ss, rfl, .inl (SqL.of ha), h64, fin⟩
  | tup xs =>
    obtain ⟨a, vs, rfl, ha, la⟩ := r.tup I
    have e : xs = ss.map D.str := e
    subst e
    obtain rfl := den_strs_inv la
    exact ⟨a, ss, rfl, .inr (.inl (SqT.of ha)), h64, fin⟩
  | wtp xs =>
    have e : xs = ss.map D.str := e
    subst e
    rcases r.own I with r | ⟨a, o, e1, e2, w⟩
    · cases r with
      | @wtp a vs _ e2 l r =>
        obtain rfl := den_strs_inv (paired_of l r)
        exact ⟨a, ss, rfl, .inr (.inl (e2 H)), h64, fin⟩
    · cases o <;> cases e2
  | dct ps =>
    have e : ps.map (·.1) = ss.map D.str := e
    obtain ⟨a, rfl, ⟨kvs, hr, l⟩ | ⟨kvs, hr, hn, l⟩⟩ := r.dct I
    · exact ⟨a, ss, rfl, .inr (.inr ⟨kvs, hr, denK_strs l e⟩), h64, fin⟩
    · exfalso
      cases l with
      | nil => exact hn rfl
      | cons r9 t9 =>
        cases ss with
        | nil => cases e
        | cons n ns =>
          simp only [List.map_cons, List.cons.injEq] at e
          have h1 := r9.1
          rw [e.1] at h1
          cases h1
  | _ => (cases ss <;> simp [srtOf] at e)
theorem e_sorted (hc : X.calm = true) (ha : PDe G X O e ka ca na fa) (hm : X.mg "sorted" = none) (hg : Gl X "sorted" := by rfl) (he : starEach [e] X.env = (false, eval e X.env) :: starEach [] X.env := by rfl) : PDe G X O (.Call (.Name "sorted" p) [e] [] pos) .fr ca na (fUn opSrt fa) :=
  e_callB1 (call_srt hc) (fun v H Q h => ⟨v, rfl, h⟩) s_srt ha hm hg (by rfl) (by decide) (by decide) he
end

/-! ### what sorted makes: one list alone -/
def leS (x y : Str) : Bool := !ltCps y.cps.toList x.cps.toList
end WL

/-! XC: enumerate(x) of a list, a tuple. -/
namespace PySem
open PyProof.Rows PyProof.V PySem.Calls
theorem wl_enum_new1 {v : Value} {o : Obj} {H : Heap → Prop} (B : Begins v o H) :
    Meets (Builtin.«enumerate.__new__» ⟨[.type "enumerate", v], []⟩) (fun _ R s => H s.heap ∧
      R (.ok (.ret (.ref (s.heap.push o).objs.size))) { s with heap := (s.heap.push o).push { cls := .type "enumerate", data := .fields #[.none, .bool false, .ref s.heap.objs.size, rawInt 0, .none, .none] } }) :=
  .of_wp fun prog w A R s h => by
    obtain ⟨hp, g, d, tk, os⟩ := s; obtain ⟨h1, h⟩ := h
    have hsub := sub_enumerate
    have q1 : ∀ {A' : Around} {E : Value → Shared → Prop} {Q : Value → Shared → Prop}, Q (.ref hp.objs.size) ⟨hp.push o, g, d, tk, os⟩ → wpAny (model prog w) A' (pyIter v) Q E ⟨hp, g, d, tk, os⟩ :=
      fun q => B.iter prog w _ _ ⟨hp, g, d, tk, os⟩ _ h1 q
    wp_walk using q1
    refine wpAny_stack_any fun st => wpAny_pure ?_
    split
    · rename_i c _ _ _ _ _
      cases (c == Value.type "enumerate")
      · wp_walk using q1
        exact ⟨_, rfl, h⟩
      · wp_walk using q1
        exact ⟨_, rfl, h⟩
    · wp_walk using q1
      exact ⟨_, rfl, h⟩
section
variable {prog : Program} {w : World} {A : Around} {E : Value → Shared → Prop} {s : Shared}
theorem wl_enum_begins {v : Value} {o : Obj} {H : Heap → Prop} {Q : Value → Shared → Prop} (B : Begins v o H) (h1 : H s.heap)
    (h : ∀ h', IsEnum h' (s.heap.objs.size + 1) s.heap.objs.size 0 .none → h'.get? s.heap.objs.size = some o → h'.objs.size = s.heap.objs.size + 2 →
      (∀ b o, s.heap.get? b = some o → h'.get? b = some o) → Q (.ref (s.heap.objs.size + 1)) { s with heap := h' }) :
    wpAny (model prog w) A (call (.type "enumerate") [v]) Q E s := by
  refine callType_new F.called_enumerate (by decide) (F.typeCall_enumerate_1 _) (F.newCall_enumerate_1 _) (fun obj => F.args_object_init_2 obj _) F.entry_enumerate_new
    (wl_enum_new1 B) ⟨h1, ?_⟩
  have hz : (s.heap.push o).objs.size = s.heap.objs.size + 1 := Heap.size_push ..
  show _ ∧ _
  rw [hz]
  have he : IsEnum ((s.heap.push o).push { cls := .type "enumerate", data := .fields #[.none, .bool false, .ref s.heap.objs.size, rawInt 0, .none, .none] }) (s.heap.objs.size + 1) s.heap.objs.size 0 .none := by
    have := Heap.get?_push_size (s.heap.push o) (o := { cls := .type "enumerate", data := .fields #[.none, .bool false, .ref s.heap.objs.size, rawInt 0, .none, .none] }) rfl
    rw [hz] at this; exact this
  refine ⟨⟨_, he, rfl⟩, h _ he (Heap.get?_push_of_some _ (Heap.get?_push_size _ B.free)) (by rw [Heap.size_push, hz]) fun b o x => Heap.get?_push_of_some _ (Heap.get?_push_of_some _ x)⟩
end
end PySem
namespace WL
open PySem PySem.Spec PyProof.Rows L2
/-- the tuple at a, each item in a new pair -/
def Itet (K : PySem.W.Frag) (a : Addr) : It :=
  ⟨fun i H => ∃ (xs : List V) (x : V), SqT K H a xs ∧ xs[i]? = some x, fun i H v H' => ∃ T x, v = .ref T ∧ H T = none ∧ H' = upd H T (.tup [.int (i : Nat), x]) ∧ ∀ xs, SqT K H a xs → xs[i]? = some x, fun i H => ∃ xs : List V, SqT K H a xs ∧ xs.length = i⟩
theorem turn_enumT {P : Program} {w : World} {K : PySem.W.Frag} {elts : List Expr} {kk : Nat} {tpos : Pos} (a e it : Addr) :
    Turn P w K (.Tuple elts kk tpos) (Itet K a) [e, it] e (fun i h => (∃ old, IsEnum h e it ((i : Nat) : Int) old) ∧ h.IsTupleIter it a i ∧ e ≠ it) where
  mem := by simp
  obj := fun i h st b hb => by
    obtain ⟨⟨old, he⟩, ⟨o, ho, hc, hd⟩, _⟩ := st
    have e' : b = e ∨ b = it := by simpa using hb
    rcases e' with z | z
    · rw [z]; exact ⟨_, he, fun v q => nomatch q⟩
    · rw [z]; exact ⟨o, ho, fun v q => by rw [hd] at q; cases q⟩
  keep := fun i h h' st k => let ⟨⟨old, he⟩, hi, hne⟩ := st; ⟨⟨old, k e (by simp) _ he⟩, hi.at fun o q => k it (by simp) o q, hne⟩
  item := by
    intro X hP hw hK hc i pins s σ H E I hf st hg
    subst hP hw hK
    obtain ⟨⟨old, he⟩, hit, hne⟩ := st
    obtain ⟨xs, x, hq, hx⟩ := hg
    obtain ⟨its, rv, p, hz⟩ := I.tuple hq
    obtain ⟨u, hu, ru⟩ := rv.get hx
    have hT0 : s.heap.IsTuple a its.toArray := p
    have hel : e < s.heap.objs.size := Heap.lt_size he
    have hil : it < s.heap.objs.size := by obtain ⟨_, q, _⟩ := hit; exact Heap.lt_size q
    have hat : a ≠ it := fun z => by
      obtain ⟨o, q1, q2, _⟩ := hit
      obtain ⟨o2, r1, r2, _⟩ := hT0
      rw [z, q1] at r1; cases r1
      rw [q2] at r2; exact absurd (Value.type.inj r2) (by decide)
    have hae : a ≠ e := fun z => by
      obtain ⟨o2, r1, r2, _⟩ := hT0
      rw [z] at r1
      have he' : s.heap.get? e = some _ := he
      rw [he'] at r1; cases r1
      exact absurd (Value.type.inj r2) (by decide)
    have hlt : i < its.toArray.size := by
      have := (List.getElem?_eq_some_iff.mp hu).1
      simpa using this
    refine wpAny_pyNext_enum_itemC (Draws.tuple (A := X.A.in1) (I.ok.hd hc) it a hat its.toArray) he ⟨hit, hT0⟩ hlt hne (by simp [hne, Ne.symm hae]) fun x' h' tk hPx ho hit' hT hsz hk => ?_
    obtain rfl : u = x' := by
      have e1 : its[i]? = some x' := by simpa using hPx
      rw [hu] at e1
      exact Option.some.inj e1
    refine ⟨_, rfl, wpAny_letOwnedTupleGo_enum (s := { s with heap := h', toks := tk + 1 }) ho fun h'' he' sb => ?_⟩
    have hT2 : h''.get? s.heap.objs.size = some { cls := .type "tuple", data := .seq #[.int i tk, u] } := (sb.2 _ (Nat.ne_of_gt hel)).trans hT
    have new : ObjOk X.prog X.w (upd H s.heap.objs.size (.tup [.int (i : Nat), x])) h'' s.heap.objs.size (.tup [.int (i : Nat), x]) :=
      ⟨by show 2 ≤ sizeLine; decide, [.int i tk, u], .cons ⟨_, rfl⟩ (.cons ru .nil), ⟨_, hT2, rfl, _, rfl⟩⟩
    have I1 : Inv X pins σ (upd H s.heap.objs.size (.tup [.int (i : Nat), x])) { s with heap := h'', toks := tk + 1 } :=
      I.turnedNew (ch := [e, it]) (fun b ob hb q => (sb.2 b (fun z => hb (by simp [z]))).trans (hk b ob (fun z => hb (by simp [z])) (fun z => hb (by simp [z])) q)) hf (Nat.le_refl _) new
    refine ⟨.ref s.heap.objs.size, _, I1, rfl, ⟨_, x, rfl, I.hok.fresh (Nat.le_refl _), rfl, fun ys hy => by rw [I.tuple_inj hy hq]; exact hx⟩, ⟨⟨u, ?_⟩, hit'.1.at fun o q => (sb.2 it (Ne.symm hne)).trans q, hne⟩, fun b hb => ?_⟩
    · have e1 : ((i + 1 : Nat) : Int) = (i : Int) + 1 := by omega
      rw [e1]; exact he'
    · have hb' : b < s.heap.objs.size := by
        have e' : b = e ∨ b = it := by simpa using hb
        rcases e' with z | z
        · rw [z]; exact hel
        · rw [z]; exact hil
      rw [upd_ne (Nat.ne_of_lt hb')]
      exact (hf b hb).1
  done := by
    intro X hP hw hK hc i pins s σ H E I hf st hg
    subst hP hw hK
    obtain ⟨⟨old, he⟩, hit, hne⟩ := st
    obtain ⟨xs, hq, hx⟩ := hg
    obtain ⟨its, rv, p, hz⟩ := I.tuple hq
    obtain ⟨f0, f1, f2, f3, f4, f5⟩ := hf it (by simp)
    have hl := rv.length
    have hT0 : s.heap.IsTuple a its.toArray := p
    have hat : a ≠ it := fun z => by
      obtain ⟨o, q1, q2, _⟩ := hit
      obtain ⟨o2, r1, r2, _⟩ := hT0
      rw [z, q1] at r1; cases r1
      rw [q2] at r2; exact absurd (Value.type.inj r2) (by decide)
    subst hx
    have hn : xs.length = its.toArray.size := by simp; omega
    rw [hn] at hit
    exact wpAny_pyNext_enum_endD (Draws.tuple (A := X.A.in1) (I.ok.hd hc) it a hat its.toArray) he ⟨hit, hT0⟩ fun h' eb => ⟨rfl, I.turned (t' := s.toks) (fun b o hb q => eb b o hb q) f0 f1 f3 f4 f5⟩
  self := fun A i s Q E st h => let ⟨⟨_, he⟩, _⟩ := st; wpAny_pyIter_enum he h
/-- enumerate(x) -/
def iEnumA (K : PySem.W.Frag) (ta : TE) : TI := fun σ H R => ta σ H fun y H1 => ∃ x, [y] = [x] ∧ ((∃ a xs, x = .ref a ∧ SqL K H1 a xs ∧ R (Ite K a) H1) ∨ ∃ a xs, x = .ref a ∧ SqT K H1 a xs ∧ R (Itet K a) H1)
theorem pi_enumA {X : Cx} {e : Expr} {ta : TE} {p pos tpos : Pos} {elts : List Expr} {kk : Nat} (hg : Gl X "enumerate") (hm : X.mg "enumerate" = none) (ha : PE X e ta) (hs : starEach [e] X.env = [(false, eval e X.env)] := by rfl) :
    PI X (.Tuple elts kk tpos) (.Call (.Name "enumerate" p) [e] [] pos) (iEnumA X.K ta) := by
  have hpa : PA X [e] (fun σ H Q => ta σ H fun x H1 => Q [x] H1) := pa_cons ha pa_nil hs
  refine ⟨fun pins s σ H R I h => ?_⟩
  refine Call_ (ld_blt I hg hm boot_enumerate (PyProof.Rows.callWith_type1 (thn (hpa.run pos pins s σ H (fun vs H1 => ∃ x, vs = [x] ∧ ((∃ a xs, x = .ref a ∧ SqL X.K H1 a xs ∧ R (Ite X.K a) H1) ∨ ∃ a xs, x = .ref a ∧ SqT X.K H1 a xs ∧ R (Itet X.K a) H1)) I ?_) fun us s1 ⟨vs, H1, I1, r1, x, ex, q1⟩ => ?_) hs rfl))
  · exact h
  · subst ex
    cases r1 with
    | cons r rr =>
      cases rr
      have new : ∀ {b : Addr}, (b = s1.heap.objs.size + 1 ∨ b = s1.heap.objs.size) → s1.heap.objs.size ≤ b := fun {b} e' => by
        rcases e' with z | z
        · rw [z]; exact Nat.le_add_right _ _
        · rw [z]; exact Nat.le_refl _
      rcases q1 with ⟨a, xs, rfl, hq, q⟩ | ⟨a, xs, rfl, hq, q⟩
      · cases r
        obtain ⟨its, rv, p', hz⟩ := I1.list hq
        refine call_enumerate_list p'.isList fun h' he hit hsz hk => wpAny_pyIter_enum he ?_
        have I2 : Inv X pins σ H1 { s1 with heap := h' } := I1.kept (t' := s1.toks) hk
        refine ⟨s1.heap.objs.size + 1, [s1.heap.objs.size + 1, s1.heap.objs.size], _, _, H1, rfl, I2, turn_enum a (s1.heap.objs.size + 1) s1.heap.objs.size, ⟨⟨.none, he⟩, hit, Nat.succ_ne_self _⟩, fun b hb => ?_, q⟩
        have hle := new (b := b) (by simpa using hb)
        exact I1.fpOk hle (I1.hok.fresh hle)
      · cases r
        obtain ⟨its, rv, p', hz⟩ := I1.tuple hq
        refine wl_enum_begins (begins_tuple a its.toArray) p' fun h' he hit hsz hk => wpAny_pyIter_enum he ?_
        have I2 : Inv X pins σ H1 { s1 with heap := h' } := I1.kept (t' := s1.toks) hk
        refine ⟨s1.heap.objs.size + 1, [s1.heap.objs.size + 1, s1.heap.objs.size], _, _, H1, rfl, I2, turn_enumT a (s1.heap.objs.size + 1) s1.heap.objs.size, ⟨⟨.none, he⟩, ⟨_, hit, rfl, rfl⟩, Nat.succ_ne_self _⟩, fun b hb => ?_, q⟩
        have hle := new (b := b) (by simpa using hb)
        exact I1.fpOk hle (I1.hok.fresh hle)
def enumD : Nat → List D → List D
  | _, [] => []
  | i, x :: xs => .tup [.int (i : Nat), x] :: enumD (i + 1) xs
theorem enumD_len : ∀ (k : Nat) (xs : List D), (enumD k xs).length = xs.length
  | _, [] => rfl
  | k, x :: xs => congrArg Nat.succ (enumD_len (k + 1) xs)
theorem enumD_get : ∀ (k i : Nat) (xs : List D), (enumD k xs)[i]? = xs[i]?.map fun x => .tup [.int ((k + i : Nat) : Int), x]
  | _, _, [] => by simp [enumD]
  | k, 0, x :: xs => by simp [enumD]
  | k, i + 1, x :: xs => by
    simp only [enumD, List.getElem?_cons_succ]
    rw [enumD_get (k + 1) i xs]
    have e : k + 1 + i = k + (i + 1) := by omega
    rw [e]
section
variable {G : Glob} {K : PySem.W.Frag} {S : Fz} {a : Addr} {vs : List V} {xs : List D}
theorem enum_yld {O : XO} {m i : Nat} {B : Bs} {S2 : Fz} {H : Hp} {σ : L2.St} {ρ : EnvD} {x : V} {H' : Hp} {y : V} {T : Addr} (r : DenL G K S vs xs) (ms : Sub m S S2) (I : Eok G K O B S2 H σ ρ) (hi : i < xs.length) (ev : x = .ref T) (hT : H T = none) (eH : H' = upd H T (.tup [.int (i : Nat), y])) (ey : vs[i]? = some y) :
    ∃ S3 d, (enumD 0 xs)[i]? = some d ∧ Eok G K O B S3 H' σ ρ ∧ Sub 0 S2 S3 ∧ Den G K S3 x d := by
  subst ev eH
  obtain ⟨x', d, e1, e2, e3⟩ := paired_some r hi
  rw [ey] at e1; cases e1
  obtain ⟨I2, m2⟩ := I.laysF (u := .tup [.int (i : Nat), y]) hT
  refine ⟨_, .tup [.int (i : Nat), d], ?_, I2, m2, den_tup Fz.put_same (.cons (.int _) (.cons ((e3.mono ms).mono m2) .nil))⟩
  rw [enumD_get, e2]
  simp
theorem itOk_enumL (h : S a = some (.lst vs)) (r : DenL G K S vs xs) : ItOk G K S (Ite K a) (enumD 0 xs) where
  go := fun k i S2 H m l hj hi => by
    rw [enumD_len] at hi
    obtain ⟨x, d, e1, _, _⟩ := paired_some r hi
    exact ⟨vs, x, SqL.of (l _ _ (m.ot _ _ rfl rfl h)), e1⟩
  stop := fun k S2 H m l hj => ⟨vs, SqL.of (l _ _ (m.ot _ _ rfl rfl h)), by rw [enumD_len]; exact Nat.le_of_eq r.length⟩
  yld := fun O k i B S2 H σ ρ x H' m I hi y => by
    rw [enumD_len] at hi
    obtain ⟨T, y, ev, hT, eH, q⟩ := y
    exact enum_yld r m I hi ev hT eH (q vs (SqL.of (I.le _ _ (m.ot _ _ rfl rfl h))))
theorem itOk_enumT (h : S a = some (.tup vs)) (r : DenL G K S vs xs) : ItOk G K S (Itet K a) (enumD 0 xs) where
  go := fun k i S2 H m l hj hi => by
    rw [enumD_len] at hi
    obtain ⟨x, d, e1, _, _⟩ := paired_some r hi
    exact ⟨vs, x, SqT.of (l _ _ (m.ot _ _ rfl rfl h)), e1⟩
  stop := fun k S2 H m l hj => ⟨vs, SqT.of (l _ _ (m.ot _ _ rfl rfl h)), by rw [enumD_len]; exact r.length⟩
  yld := fun O k i B S2 H σ ρ x H' m I hi y => by
    rw [enumD_len] at hi
    obtain ⟨T, y, ev, hT, eH, q⟩ := y
    exact enum_yld r m I hi ev hT eH (q vs (SqT.of (I.le _ _ (m.ot _ _ rfl rfl h))))
theorem itOk_enumW (h : ∀ H, SqT K H a vs) (r : DenL G K S vs xs) : ItOk G K S (Itet K a) (enumD 0 xs) where
  go := fun k i S2 H m l hj hi => by
    rw [enumD_len] at hi
    obtain ⟨x, d, e1, _, _⟩ := paired_some r hi
    exact ⟨vs, x, h H, e1⟩
  stop := fun k S2 H m l hj => ⟨vs, h H, by rw [enumD_len]; exact r.length⟩
  yld := fun O k i B S2 H σ ρ x H' m I hi y => by
    rw [enumD_len] at hi
    obtain ⟨T, y, ev, hT, eH, q⟩ := y
    exact enum_yld r m I hi ev hT eH (q vs (h _))
end
def enOf (d : D) (P : List D → Prop) : Prop := match d with
  | .lst ds => P (enumD 0 ds)
  | .tup ds => P (enumD 0 ds)
  | .wtp ds => P (enumD 0 ds)
  | _ => False
def fEnum (f : FE) : FI := fun ρ Kc => f ρ fun ρ' d => enOf d (Kc ρ')
theorem i_enum {G : Glob} {X : Cx} {O : XO} {e : Expr} {c : Bool} {n : Nat} {f : FE} {p pos tpos : Pos} {elts : List Expr} {kk : Nat} (h : PDe G X O e .st c n f) (hm : X.mg "enumerate" = none) (hg : Gl X "enumerate" := by rfl) (hs : starEach [e] X.env = [(false, eval e X.env)] := by rfl) :
    PDi G X O (.Tuple elts kk tpos) (.Call (.Name "enumerate" p) [e] [] pos) n (fEnum f) := by
  obtain ⟨t1, p1, q1⟩ := h.run
  refine ⟨_, pi_enumA hg hm p1 hs, fun B S H σ ρ Kc R I hb hf hq => ?_⟩
  refine q1 B S H σ ρ _ _ I (by omega) hf fun v H1 S1 ρ1 d I1 m1 c1 r1 h1 => ?_
  cases d with
  | lst ds =>
    obtain ⟨a, vs, e1, e2, e3⟩ := Den.lst_inv r1
    exact ⟨v, rfl, .inl ⟨a, vs, e1, .of (I1.le _ _ e2), hq _ H1 S1 ρ1 _ I1 m1 (itOk_enumL e2 e3) h1⟩⟩
  | tup ds =>
    obtain ⟨a, vs, e1, e2, e3⟩ := Den.tup_inv r1
    exact ⟨v, rfl, .inr ⟨a, vs, e1, SqT.of (I1.le _ _ e2), hq _ H1 S1 ρ1 _ I1 m1 (itOk_enumT e2 e3) h1⟩⟩
  | wtp ds =>
    cases r1 with
    | @wtp a vs _ e2 l r => exact ⟨_, rfl, .inr ⟨a, vs, rfl, e2 _, hq _ H1 S1 ρ1 _ I1 m1 (itOk_enumW e2 (paired_of l r)) h1⟩⟩
  | _ => exact h1.elim
end WL

/-! XD: plain facts: sorted texts. -/
namespace WL
open PySem PySem.Spec PyProof.Rows L2
theorem leS_iff {x y : Str} : leS x y = true ↔ x.cps.toList ≤ y.cps.toList := by
  unfold leS
  rw [ltCps_eq]
  simp [List.not_lt]
theorem leS_total (x y : Str) : (leS x y || leS y x) = true := by
  rw [Bool.or_eq_true, leS_iff, leS_iff]
  exact List.le_total _ _
theorem leS_trans {x y z : Str} (h1 : leS x y = true) (h2 : leS y z = true) : leS x z = true := by
  rw [leS_iff] at *
  exact List.le_trans h1 h2
theorem str_ext {x y : Str} (h : x.cps.toList = y.cps.toList) : x = y := by
  obtain ⟨⟨a⟩⟩ := x
  obtain ⟨⟨b⟩⟩ := y
  simp at h
  rw [h]
theorem leS_antisymm {x y : Str} (h1 : leS x y = true) (h2 : leS y x = true) : x = y := by
  rw [leS_iff] at *
  exact str_ext (List.le_antisymm h1 h2)
theorem rising_pw : ∀ {p : Str} {r : List Str}, risingS p r = true → (p :: r).Pairwise (fun a b => leS a b = true)
  | p, [], _ => by simp
  | p, x :: r, h => by
    have h : (leS p x && risingS x r) = true := h
    obtain ⟨h1, h2⟩ := Bool.and_eq_true_iff.mp h
    have ih := rising_pw h2
    rw [List.pairwise_cons] at ih ⊢
    refine ⟨fun y hy => ?_, List.pairwise_cons.mpr ih⟩
    rcases List.mem_cons.mp hy with e | hy
    · rw [e]; exact h1
    · exact leS_trans h1 (ih.1 y hy)
theorem sortedS_pw {l : List Str} (h : sortedS l = true) : l.Pairwise (fun a b => leS a b = true) := by
  cases l with
  | nil => exact .nil
  | cons x r => exact rising_pw h
/-- the texts, ascending -/
def srt (l : List Str) : List Str := l.mergeSort leS
theorem srt_perm (l : List Str) : (srt l).Perm l := List.mergeSort_perm l leS
theorem srt_pw (l : List Str) : (srt l).Pairwise (fun a b => leS a b = true) := List.pairwise_mergeSort (le := leS) (fun a b c h1 h2 => leS_trans h1 h2) leS_total l
theorem pw_unique {l m : List Str} (h1 : l.Pairwise (fun a b => leS a b = true)) (h2 : m.Pairwise (fun a b => leS a b = true)) (hp : l.Perm m) : l = m :=
  List.Perm.eq_of_pairwise (fun a b _ _ x y => leS_antisymm x y) h1 h2 hp
theorem srt_eq {l m : List Str} (hp : l.Perm m) (hs : sortedS l = true) : l = srt m := pw_unique (sortedS_pw hs) (srt_pw m) (hp.trans (srt_perm m).symm)
theorem srt_len (l : List Str) : (srt l).length = l.length := (srt_perm l).length_eq
theorem mem_srt {l : List Str} {x : Str} : x ∈ srt l ↔ x ∈ l := (srt_perm l).mem_iff
theorem srt_congr {l m : List Str} (hp : l.Perm m) : srt l = srt m := pw_unique (srt_pw l) (srt_pw m) ((srt_perm l).trans (hp.trans (srt_perm m).symm))
theorem srt_srt (l : List Str) : srt (srt l) = srt l := srt_congr (srt_perm l)
theorem srt_nodup {l : List Str} (h : l.Nodup) : (srt l).Nodup := (srt_perm l).nodup_iff.mpr h
/-- sorted, the one answer -/
theorem opSrt_of {x : D} {P : D → Prop} {ss : List Str} (h : srtOf x = ss.map D.str) (hl : ss.length < 64) (hp : P (.lst ((srt ss).map D.str))) : opSrt x P := ⟨ss, h, hl, fun ys h1 h2 => by rw [srt_eq h1 h2]; exact hp⟩

/-! ### lists of texts as data -/
theorem flat_strs (ns : List Str) : (ns.map D.str).all flatD = true := by
  induction ns with
  | nil => rfl
  | cons n ns ih => simp only [List.map_cons, List.all_cons, ih, Bool.and_true]; rfl
theorem memF_strs (n : Str) (ns : List Str) : memF (.str n) (ns.map D.str) = decide (n ∈ ns) := by
  induction ns with
  | nil => rfl
  | cons m ns ih =>
    have e : memF (.str n) (.str m :: ns.map D.str) = (m == n || memF (.str n) (ns.map D.str)) := rfl
    rw [List.map_cons, e, ih]
    rw [Bool.eq_iff_iff]
    simp only [Bool.or_eq_true, beq_iff_eq, decide_eq_true_eq, List.mem_cons]
    constructor
    · rintro (h | h)
      · exact .inl h.symm
      · exact .inr h
    · rintro (h | h)
      · exact .inl h.symm
      · exact .inr h
theorem cutL_map {α β : Type} (f : α → β) (xs : List α) (lo hi : Option Int) : cutL (xs.map f) lo hi = (cutL xs lo hi).map f := by
  unfold cutL
  rw [List.length_map, ← List.map_drop, ← List.map_take]
theorem sIx_nat (n d i : Nat) : HT.sIx n d (some (i : Int)) = min i n := by
  unfold HT.sIx
  simp
  try omega
theorem cutL_take {α : Type} (xs : List α) (i : Nat) : cutL xs none (some (i : Int)) = xs.take i := by
  unfold cutL
  rw [sIx_nat]
  have e : HT.sIx xs.length 0 none = 0 := rfl
  rw [e, List.drop_zero, Nat.sub_zero]
  rcases Nat.le_total i xs.length with h | h
  · rw [Nat.min_eq_left h]
  · rw [Nat.min_eq_right h, List.take_of_length_le h, List.take_of_length_le (Nat.le_refl _)]
theorem cutL_drop {α : Type} (xs : List α) (i : Nat) : cutL xs (some (i : Int)) none = xs.drop i := by
  unfold cutL
  rw [sIx_nat]
  have e : HT.sIx xs.length xs.length none = xs.length := rfl
  rw [e]
  rcases Nat.le_total i xs.length with h | h
  · rw [Nat.min_eq_left h, List.take_of_length_le (by rw [List.length_drop]; exact Nat.le_refl _)]
  · rw [Nat.min_eq_right h, List.drop_eq_nil_of_le (Nat.le_refl _), List.drop_eq_nil_of_le h]; simp
theorem nodup_take {α : Type} {xs : List α} {i : Nat} {x : α} (h : xs.Nodup) (hx : xs[i]? = some x) : x ∉ xs.take i := by
  intro hm
  obtain ⟨j, hj⟩ := List.mem_iff_getElem?.mp hm
  have hlt : j < i := by
    have := (List.getElem?_eq_some_iff.mp hj).1
    rw [List.length_take] at this
    omega
  rw [List.getElem?_take_of_lt hlt] at hj
  obtain ⟨hi, e1⟩ := List.getElem?_eq_some_iff.mp hx
  obtain ⟨hj', e2⟩ := List.getElem?_eq_some_iff.mp hj
  exact List.pairwise_iff_getElem.mp h j i hj' hi hlt (e2.trans e1.symm)
end WL

/-! XE: walking a dict's keys (the dict is locked for good). -/
namespace WL
open PySem PySem.Spec PyProof.Rows L2
/-- e's value, a dict locked -/
def tLockV (td : TE) : TE := fun σ H Q => td σ H fun x H1 => Q x H1 ∨ ∃ d kvs, x = .ref d ∧ H1 d = some (.dK kvs) ∧ ∀ od, Q x (upd H1 d (.frz od (.dK kvs)))
theorem pe_lockV {X : Cx} {e : Expr} {td : TE} (he : PE X e td) : PE X e (tLockV td) := by
  refine ⟨fun pins s σ H Q I h => thn (he.run pins s σ H _ I h) fun u s1 ⟨x, H1, I1, r, q⟩ => ?_⟩
  rcases q with q | ⟨d, kvs, ex, hd, q⟩
  · exact ⟨x, H1, I1, r, q⟩
  · obtain ⟨od, I2⟩ := I1.lock hd trivial
    exact ⟨x, _, I2, r, q od⟩
def iAll (K : PySem.W.Frag) (tl : TE) : TI := fun σ H R => tl σ H fun x H1 => (∃ a, x = .ref a ∧ (∃ xs, SqL K H1 a xs) ∧ R (Itl K a) H1) ∨ (∃ a, x = .ref a ∧ (∃ xs, SqT K H1 a xs) ∧ R (Itt K a) H1) ∨ (∃ y, x = .str y ∧ R (Its y) H1) ∨ ∃ d o kvs, x = .ref d ∧ H1 d = some (.frz o (.dK kvs)) ∧ R (Itk d o kvs) H1
theorem pi_all {X : Cx} {tg l : Expr} {tl : TE} (hl : PE X l tl) : PI X tg l (iAll X.K tl) := by
  refine ⟨fun pins s σ H R I h => ?_⟩
  refine thn (hl.run pins s σ H _ I h) fun v s1 ⟨x, H1, I1, r1, q1⟩ => ?_
  rcases q1 with ⟨a, e, ⟨xs, hq⟩, q⟩ | ⟨a, e, ⟨xs, hq⟩, q⟩ | ⟨y, e, q⟩ | ⟨d, o, kvs, e, hd, q⟩
  · subst e
    cases r1
    obtain ⟨its, rv, p, hz⟩ := I1.list hq
    refine wpAny_pyIter_list p.isList ?_
    refine ⟨s1.heap.objs.size, [s1.heap.objs.size], _, _, H1, rfl, I1.kept (t' := s1.toks) fun b o e => Heap.get?_push_of_some _ e, turn_list a _, ⟨_, Heap.get?_push_size _ rfl, rfl, rfl⟩, fun b hb => ?_, q⟩
    have e : b = s1.heap.objs.size := by simpa using hb
    subst e
    exact I1.fpOk (Nat.le_refl _) (I1.hok.fresh (Nat.le_refl _))
  · subst e
    cases r1
    obtain ⟨its, rv, p, hz⟩ := I1.tuple hq
    refine wpAny_pyIter_tuple (show s1.heap.IsTuple a its.toArray from p) ?_
    refine ⟨s1.heap.objs.size, [s1.heap.objs.size], _, _, H1, rfl, I1.kept (t' := s1.toks) fun b o e => Heap.get?_push_of_some _ e, turn_tuple a _, ⟨_, Heap.get?_push_size _ rfl, rfl, rfl⟩, fun b hb => ?_, q⟩
    have e : b = s1.heap.objs.size := by simpa using hb
    subst e
    exact I1.fpOk (Nat.le_refl _) (I1.hok.fresh (Nat.le_refl _))
  · subst e
    obtain ⟨t, rfl⟩ := r1
    cases ha : y.cps.all (· < 128)
    · exact wpAny_pyIter_wide ha (pi_one (tk := s1.toks) I1 _ (turn_str _ y t "str_iterator" (.inr rfl)) ⟨_, Heap.get?_push_size _ rfl, rfl, rfl⟩ q)
    · exact wpAny_pyIter_ascii ha (pi_one (tk := s1.toks) I1 _ (turn_str _ y t "str_ascii_iterator" (.inl rfl)) ⟨_, Heap.get?_push_size _ rfl, rfl, rfl⟩ q)
  · subst e
    obtain rfl : v = Value.ref d := r1
    obtain ⟨hs, hgd, hx, es, ep, vs, hdt, hsz, kv, hm⟩ := I1.frzK hd
    refine iter_keys hs hgd hx hdt (pi_one (tk := s1.toks) I1 _ (turn_keys _ hdt) ⟨_, Heap.get?_push_size _ rfl, rfl, ?_⟩ q)
    rw [hsz] <;> rfl
section
variable {G : Glob} {K : PySem.W.Frag} {O : XO} {B : Bs} {S S' : Fz} {H H' : Hp} {σ : L2.St} {ρ : EnvD}
/-- a frozen dict is locked -/
theorem Eok.lock {d : Addr} {kvs : List (Key × V)} {od : Obj} (I : Eok G K O B S H σ ρ) (h : S d = some (.dK kvs)) : Eok G K O B (S.put d (.frz od (.dK kvs))) (upd H d (.frz od (.dK kvs))) σ ρ ∧ Sub 0 S (S.put d (.frz od (.dK kvs))) := by
  have hH := I.le _ _ h
  have hm : ¬ G.M d := fun m => by rw [I.sm d m] at h; cases h
  have sub : Sub 0 S (S.put d (.frz od (.dK kvs))) := ⟨fun a u hd r => by
    by_cases e : a = d
    · subst e
      rcases r with r | ⟨o, r⟩
      · rw [h] at r; cases r; exact .inr ⟨od, Fz.put_same⟩
      · rw [h] at r; cases r
    · rcases r with r | ⟨o, r⟩
      · exact .inl ((Fz.put_ne e).trans r)
      · exact .inr ⟨o, (Fz.put_ne e).trans r⟩, fun a u h1 h2 r => by
    have e : a ≠ d := fun e => by subst e; rw [h] at r; cases r; cases h1
    exact (Fz.put_ne e).trans r, Nat.le_refl _⟩
  refine ⟨I.step (x := d) ⟨fun b o e => ?_, fun b m => ?_, ?_, fun b e => ?_, fun b e nt => ?_, fun b o e m n => ?_⟩ rfl sub ⟨fun i o w => ?_, fun j o e => ?_⟩ (fun b hb => Fz.put_ne hb) (fun b hb => upd_ne hb), sub⟩
  · by_cases hb : b = d
    · subst hb; rw [Fz.put_same] at e; rw [upd_same]; exact e
    · rw [Fz.put_ne hb] at e; rw [upd_ne hb]; exact I.le b o e
  · rw [Fz.put_ne (fun z => hm (by rw [← z]; exact m))]; exact I.sm b m
  · refine G.jlaw S.T H _ I.j fun b o e z => ?_
    have hb : b ≠ d := by
      rintro rfl
      rcases z with z | ⟨p, rfl⟩
      · exact hm z
      · rw [hH] at e; cases e
    rw [upd_ne hb]; exact e
  · by_cases hb : b = d
    · rw [hb, upd_same]; exact fun z => nomatch z
    · rw [upd_ne hb]; exact I.dom b e
  · by_cases hb : b = d
    · subst hb; exact I.sn b (by rw [h]; exact fun z => nomatch z) (by rw [h]; exact fun x z => by cases x <;> cases z)
    · rw [Fz.put_ne hb] at e; exact I.sn b e fun xs z => nt xs ((Fz.put_ne hb).trans z)
  · by_cases hb : b = d
    · subst hb
      rw [upd_same]
      rcases I.kept b o e m n with q | ⟨dk, ns, od', q⟩
      · rw [hH] at q; cases q
        refine .inr ⟨rfl, ?_, od, rfl⟩
        rcases I.sn b (by rw [h]; exact fun z => nomatch z) (by rw [h]; exact fun x z => by cases x <;> cases z) with z | z
        · exact z
        · rw [e] at z; cases z
      · rw [hH] at q; cases q
    · rw [upd_ne hb]; exact I.kept b o e m n
  · have := (Owns.at I w).s
    rw [h] at this; cases this
  · have := (I.tm j d o e).s
    rw [h] at this; cases this
end
def itAll (d : D) (P : List D → Prop) : Prop := match d with
  | .lst ds => P ds
  | .tup ds => P ds
  | .str x => P (strD x)
  | .wls ds => P ds
  | .wtp ds => P ds
  | .dct ps => (∀ p ∈ ps, isT p.1 = false) ∧ P (ps.map (·.1))
  | _ => False
theorem itOk_keys {G : Glob} {K : PySem.W.Frag} {S : Fz} {d : Addr} {o : Obj} {kvs : List (Key × V)} {ps : List (D × D)} (h : S d = some (.frz o (.dK kvs))) (r : DenK G K S kvs ps) : ItOk G K S (Itk d o kvs) (ps.map (·.1)) where
  go := fun k i S2 H m l hj hi => ⟨l _ _ (m.ot _ _ rfl rfl h), by rw [r.length]; simpa using hi⟩
  stop := fun k S2 H m l hj => ⟨l _ _ (m.ot _ _ rfl rfl h), by rw [r.length]; simp⟩
  yld := fun O k i B S2 H σ ρ x H' m I hi y => by
    obtain ⟨rfl, q, v, e1, rfl⟩ := y
    rw [List.length_map] at hi
    obtain ⟨kv, p, e2, e3, e4⟩ := paired_some r hi
    rw [e1] at e2; cases e2
    refine ⟨S2, p.1, by rw [List.getElem?_map, e3]; rfl, I, Sub.refl _, ?_⟩
    rw [e4.1]
    cases q with
    | inl n => exact .int n
    | inr z => exact .str z
theorem i_all {G : Glob} {X : Cx} {O : XO} {e : Expr} {c : Bool} {n : Nat} {f : FE} {tg : Expr} (h : PDe G X O e .st c n f) : PDi G X O tg e n (fun ρ Kc => f ρ fun ρ' d => itAll d (Kc ρ')) := by
  obtain ⟨t1, p1, q1⟩ := h.run
  refine ⟨_, pi_all (pe_lockV p1), fun B S H σ ρ Kc R I hb hf hq => ?_⟩
  refine q1 B S H σ ρ _ _ I (by omega) hf fun v H1 S1 ρ1 d I1 m1 c1 r1 h1 => ?_
  cases d with
  | lst ds =>
    obtain ⟨a, vs, e1, e2, e3⟩ := Den.lst_inv r1
    exact .inl (.inl ⟨a, e1, ⟨vs, .of (I1.le _ _ e2)⟩, hq _ H1 S1 ρ1 ds I1 m1 (itOk_list e2 e3) h1⟩)
  | tup ds =>
    obtain ⟨a, vs, e1, e2, e3⟩ := Den.tup_inv r1
    exact .inl (.inr (.inl ⟨a, e1, ⟨vs, SqT.of (I1.le _ _ e2)⟩, hq _ H1 S1 ρ1 ds I1 m1 (itOk_tup e2 e3) h1⟩))
  | str z => exact .inl (.inr (.inr (.inl ⟨z, Den.str_inv r1, hq _ H1 S1 ρ1 _ I1 m1 itOk_str h1⟩)))
  | wls ds =>
    obtain ⟨a, vs, e1, e0, e2, e3⟩ := Den.wls_inv r1
    exact .inl (.inl ⟨a, e1, ⟨vs, e0 _ I1.le⟩, hq _ H1 S1 ρ1 ds I1 m1 (itOk_wls e2 e3) h1⟩)
  | wtp ds =>
    cases r1 with
    | wtp e2 l r => exact .inl (.inr (.inl ⟨_, rfl, ⟨_, e2 _⟩, hq _ H1 S1 ρ1 ds I1 m1 (itOk_wtp e2 (paired_of l r)) h1⟩))
  | dct ps =>
    obtain ⟨hT, h1⟩ := h1
    obtain ⟨a, rfl, ⟨kvs, hr, l⟩ | ⟨kvs, hr, hn, l⟩⟩ := Den.dct_inv r1
    · rcases hr with hr | ⟨od, hr⟩
      · refine .inr ⟨a, kvs, rfl, I1.le _ _ hr, fun od => .inr (.inr (.inr ⟨a, od, kvs, rfl, upd_same, ?_⟩))⟩
        obtain ⟨I2, m2⟩ := I1.lock (od := od) hr
        exact hq _ _ _ ρ1 _ I2 (m1.t0 m2) (itOk_keys Fz.put_same (l.mono m2)) h1
      · exact .inl (.inr (.inr (.inr ⟨a, od, kvs, rfl, I1.le _ _ hr, hq _ H1 S1 ρ1 _ I1 m1 (itOk_keys hr l) h1⟩)))
    · exfalso
      cases l with
      | nil => exact hn rfl
      | @cons k p _ _ r9 t9 =>
        have e := hT p (List.mem_cons_self ..)
        have e2 := r9.1
        rw [e2] at e
        cases e
  | _ => exact h1.elim
end WL

/-! XF: tuple(d), list(d), dict(pairs), stars, x += e. -/
namespace PySem
open PyProof.Rows PyProof.V PySem.Calls
open AutoSeq1 (wpAny_loadPart')
section
variable {prog : Program} {w : World} {T : String} {r d : Addr} {n : Nat} {P : Nat → Value → Prop} {OK : Heap → Prop}
theorem wl_tuple_new (K : PySem.W.KdlSrc prog w T r d n P OK) (hT : T = "dict") (hn : n ≤ sizeLine) :
    MeetsIn prog w (Builtin.«tuple.__new__» ⟨[.type "tuple", .ref r], []⟩)
      (fun A R s => A.handled = none ∧ OK s.heap ∧ s.TypeIs (.ref r) "dict" ∧ ∀ (h' : Heap) (tk : Nat) (acc : Array Value), (∀ b o', s.heap.get? b = some o' → h'.get? b = some o') → ItemsOf P acc n → R (.ok (.ret (.ref h'.objs.size))) { s with heap := h'.push { cls := .type "tuple", data := .seq acc }, toks := tk }) := by
  intro A R s h
  obtain ⟨hp, g, dr, tk, os⟩ := s; obtain ⟨hh, hok, hTy, h⟩ := h
  have hsub := sub_tuple_self
  have hinit := init_tuple_lookup
  have hmh := madeHere_tuple
  have hcol : ∀ {A' : Around} {Q : List Value → Shared → Prop} {E : Value → Shared → Prop}, A'.handled = none → (∀ (h' : Heap) (tk' : Nat) (acc : Array Value), (∀ b o', hp.get? b = some o' → h'.get? b = some o') → ItemsOf P acc n → Q acc.toList ⟨h', g, dr, tk', os⟩) → wpAny (model prog w) A' (collect (.ref r)) Q E ⟨hp, g, dr, tk, os⟩ :=
    fun {A' Q E} ha q => PySem.W.kdu_collect K ha hok hn q
  wp_walk using wpAny_typeOf hTy, hcol
  all_goals first | exact hh | skip
  all_goals
    intro h' tk' acc hk hacc
    show wpAny _ _ (Builtin.Tuple.tupleExact acc.toList.toArray >>= fun v => ret v) _ _ _
    unfold Builtin.Tuple.tupleExact
    refine wpAny_bind (wpAny_newObj_type ?_ (by
      show acc.toList.toArray.size ≤ sizeLine
      have e : acc.size = n := hacc.1
      simp [e, hn]))
    refine wpAny_pure ?_
    have e : acc.toList.toArray = acc := by simp
    rw [e]
    exact h h' tk' acc hk hacc
variable {A : Around} {E : Value → Shared → Prop} {s : Shared}
theorem wl_call_tuple {Q : Value → Shared → Prop} (K : PySem.W.KdlSrc prog w T r d n P OK) (hT : T = "dict") (hn : n ≤ sizeLine) (hh : A.handled = none) (hok : OK s.heap)
    (h : ∀ (h' : Heap) (tk : Nat) (acc : Array Value), (∀ b o', s.heap.get? b = some o' → h'.get? b = some o') → ItemsOf P acc n → Q (.ref h'.objs.size) { s with heap := h'.push { cls := .type "tuple", data := .seq acc }, toks := tk }) :
    wpAny (model prog w) A (call (.type "tuple") [.ref r]) Q E s := by
  have ht := K.type s hok
  subst hT
  exact callType_newIn F.called_tuple (by decide) (F.typeCall_tuple_1 _) (F.newCall_tuple_1 _) (fun obj => F.args_object_init_2 obj _) F.entry_tuple_new
    (wl_tuple_new K rfl hn) ⟨hh, hok, ht, fun h' tk acc hk hacc => ⟨⟨_, Heap.get?_push_size _ rfl, rfl⟩, h h' tk acc hk hacc⟩⟩
end
end PySem
namespace WL
open PySem PySem.Spec PyProof.Rows L2
section
variable {X : Cx}
/-- tuple(d): its keys -/
theorem call_tupleD (hcalm : X.calm = true) : CallR X (.type "tuple") (fun xs H Q => ∃ (a : Addr) (kvs : List (Key × V)), xs = [.ref a] ∧ Rd H a (.dK kvs) ∧ ∀ p, H p = none → Q (.ref p) (upd H p (.tup (kvs.map fun kv => kV kv.1)))) := by
  intro pins s σ H xs us Q I r q
  obtain ⟨a, kvs, ex, hd, q⟩ := q
  subst ex
  obtain ⟨u, eu, rx⟩ := vals1 r
  subst eu
  cases rx
  obtain ⟨z, lo, vs, rel, dd⟩ := dk_rd I.hok hd
  obtain ⟨ep, hat⟩ := dd.dictAt
  have ek : (kvs.map fun kv => kV kv.1) = vs.map fun p => kV p.1 := by
    have e := congrArg (List.map kV) rel.keys
    rw [List.map_map, List.map_map] at e
    exact e
  refine wl_call_tuple (PySem.W.kdl_dict (knd := mixKind X.prog X.w) (kvs := vs) (ep := ep) lo) rfl (by rw [← rel.length]; exact z) (I.ok.hd hcalm) hat fun h' tk acc hk hacc => ?_
  have hv : Vals (vs.map fun p => kV p.1) acc.toList := keys_at (by rw [Array.length_toList]; exact hacc.1) fun j v e => hacc.2 j v (by rw [← Array.getElem?_toList]; exact e)
  have I1 : Inv X pins σ H { s with heap := h', toks := tk } := I.kept hk
  refine ⟨.ref h'.objs.size, upd H h'.objs.size (.tup (kvs.map fun kv => kV kv.1)), I1.laid (t' := tk) (fun b o e => Heap.get?_push_of_some _ e) (Nat.le_refl _)
    (show ObjOk X.prog X.w _ _ _ (.tup (kvs.map fun kv => kV kv.1)) from ⟨by rw [List.length_map]; exact z, acc.toList, by rw [ek]; exact hv, ⟨_, Heap.get?_push_size _ rfl, rfl, 0, by simp⟩⟩), rfl, q _ (I1.hok.fresh (Nat.le_refl _))⟩
end
end WL

/-! XG: tuple(x), list(x), dict(x), *x, x += e, over data. -/
namespace WL
open PySem PySem.Spec PyProof.Rows L2
/-- no key is a tuple -/
def noT (ps : List (D × D)) : Bool := ps.all fun p => !isT p.1
theorem denK_keyvs {G : Glob} {K : PySem.W.Frag} {S : Fz} : ∀ {kvs : List (Key × V)} {ps : List (D × D)}, DenK G K S kvs ps → DenL G K S (kvs.map fun kv => kV kv.1) (ps.map (·.1))
  | _, _, .nil => .nil
  | (q, v) :: kvs, p :: ps, .cons r t => by
    refine .cons ?_ (denK_keyvs t)
    show Den G K S (kV q) p.1
    rw [r.1]
    cases q with
    | inl n => exact .int n
    | inr z => exact .str z
theorem ROk.dK {G : Glob} {K : PySem.W.Frag} {O : XO} {B : Bs} {S : Fz} {H : Hp} {σ : L2.St} {ρ : EnvD} {k : Kd} {v : V} {ps : List (D × D)} (I : Eok G K O B S H σ ρ) (r : ROk G K B S H σ ρ v (.dct ps) k) (h : noT ps = true) : ∃ a kvs, v = .ref a ∧ Rd H a (.dK kvs) ∧ DenK G K S kvs ps := by
  obtain ⟨a, rfl, ⟨kvs, hr, l⟩ | ⟨kvs, hr, hn, l⟩⟩ := r.dct I
  · exact ⟨a, kvs, rfl, hr, l⟩
  · exfalso
    cases l with
    | nil => exact hn rfl
    | @cons k p _ _ r9 t9 =>
      simp only [noT, List.all_cons, Bool.and_eq_true, Bool.not_eq_true'] at h
      have e := h.1
      rw [r9.1] at e
      cases e
section
variable {G : Glob} {X : Cx} {O : XO} {e : Expr} {k ka : Kd} {c ca : Bool} {n na : Nat} {f fa : FE} {p pos : Pos}
def tupleA (x : D) (P : D → Prop) : Prop := match x with
  | .lst xs => P (.tup xs)
  | .tup xs => P (.tup xs)
  | .dct ps => noT ps = true ∧ P (.tup (ps.map (·.1)))
  | _ => False
abbrev rTupA (K : PySem.W.Frag) : V → Hp → VK → Prop := fun x H Q => rTupleA K x H Q ∨ ∃ (a : Addr) (kvs : List (Key × V)), x = .ref a ∧ Rd H a (.dK kvs) ∧ ∀ p, H p = none → Q (.ref p) (upd H p (.tup (kvs.map fun kv => kV kv.1)))
theorem call_tupA (hc : X.calm = true) : CallR X (.type "tuple") (fun xs H Q => ∃ x, xs = [x] ∧ rTupA X.K x H Q) := by
  intro pins s σ H xs us Q I r h
  obtain ⟨x, rfl, h | ⟨a, kvs, rfl, h, q⟩⟩ := h
  · exact call_tuple_of pins s σ H _ us Q I r h
  · exact call_tupleD hc pins s σ H _ us Q I r ⟨a, kvs, rfl, h, q⟩
theorem s_tupA : R1s G X O (rTupA X.K) tupleA .st := by
  intro B S H σ ρ ka v x Kc Q I r h hq
  cases x with
  | lst xs => exact .inl (s_tuple B S H σ ρ ka v (.lst xs) Kc Q I r h hq)
  | tup xs => exact .inl (s_tuple B S H σ ρ ka v (.tup xs) Kc Q I r h hq)
  | dct ps =>
    obtain ⟨h0, h⟩ := h
    obtain ⟨a, kvs, rfl, hr, l⟩ := r.dK I h0
    refine .inr ⟨a, kvs, rfl, hr, fun p hp => ?_⟩
    obtain ⟨I', m⟩ := I.laysF (u := .tup (kvs.map fun kv => kV kv.1)) hp
    exact hq _ _ _ _ I' m (den_tup Fz.put_same (DenL.mono m (denK_keyvs l))) h
  | _ => exact h.elim
theorem e_tupA (hc : X.calm = true) (ha : PDe G X O e ka ca na fa) (hm : X.mg "tuple" = none) (hg : Gl X "tuple" := by rfl) (he : starEach [e] X.env = (false, eval e X.env) :: starEach [] X.env := by rfl) : PDe G X O (.Call (.Name "tuple" p) [e] [] pos) .st ca na (fUn tupleA fa) :=
  e_callTy1 (call_tupA hc) (fun v H Q h => ⟨v, rfl, h⟩) s_tupA ha hm hg (by rfl) (by decide) (by decide) he
def listA (x : D) (P : D → Prop) : Prop := match x with
  | .lst xs => P (.lst xs)
  | .tup xs => P (.lst xs)
  | .wls xs => P (.lst xs)
  | .dct ps => noT ps = true ∧ P (.lst (ps.map (·.1)))
  | _ => False
abbrev rLstA (K : PySem.W.Frag) : V → Hp → VK → Prop := fun x H Q => rListA K x H Q ∨ ∃ (a : Addr) (kvs : List (Key × V)), x = .ref a ∧ Rd H a (.dK kvs) ∧ ∀ p, H p = none → Q (.ref p) (upd H p (.lst (kvs.map fun kv => kV kv.1)))
theorem call_lstA (hc : X.calm = true) : CallR X (.type "list") (fun xs H Q => ∃ x, xs = [x] ∧ rLstA X.K x H Q) := by
  intro pins s σ H xs us Q I r h
  obtain ⟨x, rfl, h | ⟨a, kvs, rfl, h, q⟩⟩ := h
  · exact call_list_of pins s σ H _ us Q I r h
  · exact call_listD hc pins s σ H _ us Q I r ⟨a, kvs, rfl, h, q⟩
theorem s_lstA : R1s G X O (rLstA X.K) listA .fr := by
  intro B S H σ ρ ka v x Kc Q I r h hq
  cases x with
  | lst xs => exact .inl (s_list B S H σ ρ ka v (.lst xs) Kc Q I r h hq)
  | tup xs => exact .inl (s_list B S H σ ρ ka v (.tup xs) Kc Q I r h hq)
  | wls xs => exact .inl (s_list B S H σ ρ ka v (.wls xs) Kc Q I r h hq)
  | dct ps =>
    obtain ⟨h0, h⟩ := h
    obtain ⟨a, kvs, rfl, hr, l⟩ := r.dK I h0
    refine .inr ⟨a, kvs, rfl, hr, fun p hp => ?_⟩
    obtain ⟨I', r'⟩ := I.lays (u := .lst (kvs.map fun kv => kV kv.1)) (o := .lst (ps.map (·.1))) hp ⟨_, upd_same, denK_keyvs l⟩
    exact hq _ _ _ _ I' (Sub.refl _) r' h
  | _ => exact h.elim
theorem e_lstA (hc : X.calm = true) (ha : PDe G X O e ka ca na fa) (hm : X.mg "list" = none) (hg : Gl X "list" := by rfl) (he : starEach [e] X.env = (false, eval e X.env) :: starEach [] X.env := by rfl) : PDe G X O (.Call (.Name "list" p) [e] [] pos) .fr ca na (fUn listA fa) :=
  e_callTy1 (call_lstA hc) (fun v H Q h => ⟨v, rfl, h⟩) s_lstA ha hm hg (by rfl) (by decide) (by decide) he

/-! ### dict(pairs), dict(d) -/
def pairsD : List D → Option (List (D × D))
  | [] => some []
  | .tup [a, b] :: r => (pairsD r).map ((a, b) :: ·)
  | _ => none
def dictA (x : D) (P : D → Prop) : Prop := match x with
  | .lst xs => ∃ ps, pairsD xs = some ps ∧ keysOk ps = true ∧ P (.dct (mergeD ps))
  | .dct ps => noT ps = true ∧ P (.dct ps)
  | _ => False
/-! ### *x -/
def fStar (fa : FE) (fr : FA) : FA := fun ρ Kc => fa ρ fun ρ1 x => seqOf x fun xs => fr ρ1 fun ρ2 ys => Kc ρ2 (xs ++ ys)
/-! ### x += e, numbers -/
def fAug (i : Nat) (g : Int → Int → Int) (fe : FE) : FS := fun Ed ρ => ∃ a : Int, ρ[i]? = some (some (.imm (.int a))) ∧ fe ρ fun ρ1 y => intOf y fun b => Ed.nx (ρ1.set i (some (.imm (.int (g a b)))))
end
end WL

/-! XH: own __contains__, __getitem__, __len__. -/
namespace WL
open PySem PySem.Spec PyProof.Rows L2
section
variable {X : Cx} {k : Nat} {f C : Addr} {fd : FuncData} {ps : List Str} {sp : Sp}
theorem passF {σ : L2.St} : PassesAt (L2.CX X.prog X.w) X σ (fun _ _ _ => False) := fun pins H s e s' I c => by
  obtain ⟨_, _, _, _, _, _, _, _, _, _, _, _, z⟩ := c
  exact z.elim
end

/-! ### over data -/
theorem Mt.plain {G : Glob} {P : Program} {w : World} {K : PySem.W.Frag} {mg : Str → Option Value} {base : Heap} {cc : Nat} {nm : Str} {k : Nat} {rk : Bool} {m : Spc} (F : Mt G P w K mg base cc nm k rk m []) :
    ∃ (C f : Addr) (fd : FuncData) (ps : List Str) (ns : List Str), FnG P w K mg base k f fd ps (spD G K rk ps.length m) ∧ G.ct cc = some (C, ns) ∧ Cls K C ∧ Meth K C nm f ∧ Binds K fd ps [] ∧ ps.length = m.ar := by
  obtain ⟨C, f, fd, ps, ds, dvs, ns, hF, hct, _, cl, mt, hb, hv, hd, hl⟩ := F.ex
  have e : dvs = [] := by
    have := (hd ⟨fun _ => none, 0⟩).length
    exact List.eq_nil_of_length_eq_zero this
  subst e
  cases hv
  exact ⟨C, f, fd, ps, ns, hF, hct, cl, mt, hb, hl⟩
section
variable {G : Glob} {X : Cx} {O : XO} {a b e : Expr} {ka kb : Kd} {ca cb : Bool} {na nb : Nat} {fa fb : FE} {pos p : Pos} {k j : Nat} {m : Spc} {cc : Nat}
/-- a method of an instance, called with data; it raises nothing and draws nothing -/
theorem callO {ps : List Str} {B : Bs} {S : Fz} {H : Hp} {σ : L2.St} {ρ : EnvD} {vs : List V} {ds : List D} {Kc : D → Prop} {Q : VK} (hl : vs.length = ps.length) (I : Eok G X.K O B S H σ ρ) (hT : S.T ≤ limT) (hx0 : m.cost = 0) (hex : ∀ ds x, ¬ m.exc ds x) (r : DenL G X.K S vs ds) (hp : m.pre ds) (hpost : ∀ d, m.post ds d → Kc d)
    (hq : ∀ z H' S' d, Eok G X.K O B S' H' σ ρ → Sub 0 S S' → Den G X.K S' z d → Kc d → Q z H') : spD G X.K false ps.length m vs H Q (fun _ _ _ => False) :=
  ⟨S, ds, hl, I.toSta.enter, (by omega), r, hp, fun v H' S' d J m' r' hpo => hq v H' S' d (I.call J (.inl hx0) m') (hx0 ▸ m') r' (hpost d hpo), fun n2 cls dx S' H' x' J l2 m' dd hxe => (hex _ _ hxe).elim⟩
theorem ins_den {S : Fz} {v : V} {fs : List D} (h : Den G X.K S v (.ins cc fs)) : ∃ a C dx vs ns, v = .ref a ∧ S a = some (.ins C dx vs) ∧ G.ct cc = some (C, ns) := by
  cases h with
  | ins h hct _ _ _ => exact ⟨_, _, _, _, _, rfl, h, hct⟩
def fInO (cc : Nat) (neg : Bool) (m : Spc) (fa fb : FE) : FE := fun ρ Kc => fa ρ fun ρ1 x => fb ρ1 fun ρ2 y => match y with
  | .ins c fs => c = cc ∧ m.pre [.ins c fs, x] ∧ ∀ d, m.post [.ins c fs, x] d → ∃ q, d = .bl q ∧ Kc ρ2 (.bl (if neg then !q else q))
  | _ => opIn neg x y (Kc ρ2)
def fLenO (cc : Nat) (m : Spc) (fa : FE) : FE := fun ρ Kc => fa ρ fun ρ1 x => match x with
  | .ins c fs => c = cc ∧ m.pre [.ins c fs] ∧ ∀ d, m.post [.ins c fs] d → ∃ n : Int, d = .int n ∧ (0 ≤ n ∧ n < 2 ^ 63) ∧ Kc ρ1 (.int n)
  | _ => lenD x (Kc ρ1)
def fIxO (cc : Nat) (m : Spc) (fa fb : FE) : FE := fun ρ Kc => fa ρ fun ρ1 x => fb ρ1 fun ρ2 y => match x with
  | .ins c fs => c = cc ∧ m.pre [.ins c fs, y] ∧ ∀ d, m.post [.ins c fs, y] d → Kc ρ2 d
  | _ => opIx x y (Kc ρ2)
end
end WL

/-! XI: {k: v for x in xs if t}, over data. -/
namespace WL
open PySem PySem.Spec PyProof.Rows L2
/-- what keys are asked for: ints and texts; any that fit -/
abbrev KOk : Type := List (D × D) → D → Bool
abbrev kK : KOk := fun _ y => (key1 y).isSome
def dcG (ok : KOk) (h : FG) (ft : FT) (fk fv : FE) (P : List (D × D) → Prop) : List D → List (D × D) → EnvD → Prop
  | [], acc, _ => P acc
  | x :: r, acc, ρ => h x ρ fun ρ1 => ft ρ1 fun ρ2 b => if b = true then fk ρ2 fun ρ3 y => fv ρ3 fun _ z => ok acc y = true ∧ dcG ok h ft fk fv P r (putD acc y z) ρ else dcG ok h ft fk fv P r acc ρ
/-- what is true of the dict all along -/
structure KInv (ok : KOk) (J : List (D × D) → Prop) : Prop where
  nil : J []
  put : ∀ acc y z, J acc → ok acc y = true → fitsP acc y = true ∧ J (putD acc y z)
def fDcG (ok : KOk) (fi : FI) (h : FG) (ft : FT) (fk fv : FE) (vs : List Nat) : FE := fun ρ Kc => fi ρ fun ρ1 xs => noOwn ρ1 vs ∧ xs.length ≤ sizeLine ∧ dcG ok h ft fk fv (fun ys => Kc ρ1 (.dct ys)) xs [] (wipeD ρ1 vs)
abbrev fDc (fi : FI) (h : FG) (ft : FT) (fk fv : FE) (vs : List Nat) : FE := fDcG kK fi h ft fk fv vs
section
variable {X : Cx}
end
section
variable {G : Glob} {K : PySem.W.Frag} {S : Fz} {H : Hp} {a : Addr}
/-- such a dict, its keys no tuples -/
def AtK (G : Glob) (K : PySem.W.Frag) (S : Fz) (H : Hp) (a : Addr) (ps : List (D × D)) : Prop := ∃ kvs : List (Key × V), H a = some (.dK kvs) ∧ DenK G K S kvs ps
theorem AtK.own {ps : List (D × D)} (h : AtK G K S H a ps) : OwnAt G K S H a (.dct ps) := .inl h
end
section
variable {G : Glob} {X : Cx} {O : XO} {nt nk ni : Nat} {h : FG} {sl : List Nat} {tg : Expr}
end
end WL

/-! XJ: {k: v for x in xs if t for x1 in xs1 if t1}. -/
namespace WL
open PySem PySem.Spec PyProof.Rows L2
section
variable {kx vx u0 j0 u1 j1 : Expr} {q0 q1 : List Expr} {sc : Scope} {ps : Pos} {it : Value} {D : Addr} {en : Env}
variable {pr : Program} {w : World} {A : Around} {R : Result → Shared → Prop} {s : Shared}
end
section
variable {X : Cx}
end
end WL

/-! XK: {k: v for x in xs if t for x1 in xs1 if t1}, over data. -/
namespace WL
open PySem PySem.Spec PyProof.Rows L2
/-- an iterable whose source leaves the environment as it is and draws nothing -/
structure PDj (G : Glob) (X : Cx) (O : XO) (tg iter : Expr) (f : FI) : Prop where
  run : ∃ wi : TI, PI X tg iter wi ∧ ∀ (B : Bs) (S : Fz) (H : Hp) (σ : L2.St) (ρ : EnvD) (Kc : EnvD → List D → Prop) (R : It → Hp → Prop), Eok G X.K O B S H σ ρ → S.T ≤ limT → f ρ Kc →
    (∀ J H' S' xs, Eok G X.K O B S' H' σ ρ → Sub 0 S S' → ItOk G X.K S' J xs → Kc ρ xs → R J H') → wi σ H R
def tjCan (G : Glob) (K : PySem.W.Frag) (O : XO) (f : FI) : TI := fun σ H R => ∃ (B : Bs) (S : Fz) (ρ : EnvD) (Kc : EnvD → List D → Prop), Eok G K O B S H σ ρ ∧ S.T ≤ limT ∧ f ρ Kc ∧
  ∀ J H' S' xs, Eok G K O B S' H' σ ρ → Sub 0 S S' → ItOk G K S' J xs → Kc ρ xs → R J H'
theorem PDj.can {G : Glob} {X : Cx} {O : XO} {tg iter : Expr} {f : FI} (p : PDj G X O tg iter f) : PI X tg iter (tjCan G X.K O f) := by
  obtain ⟨t, pt, q⟩ := p.run
  exact ⟨fun pins s σ H R I ⟨B, S, ρ, Kc, I', hb, hf, hq⟩ => pt.run pins s σ H R I (q B S H σ ρ Kc R I' hb hf hq)⟩
def fAll (f : FE) : FI := fun ρ Kc => f ρ fun ρ' d => itAll d (Kc ρ')
def dcG2 (ok : KOk) (h : FG) (ft : FT) (fi1 : FI) (h1 : FG) (ft1 : FT) (fk fv : FE) (vs1 : List Nat) (P : List (D × D) → Prop) : List D → List (D × D) → EnvD → Prop
  | [], acc, _ => P acc
  | x :: r, acc, ρ => h x ρ fun ρ1 => ft ρ1 fun ρ2 b => if b = true then fi1 ρ2 fun ρ3 xs1 => acc.length + xs1.length ≤ sizeLine ∧ dcG ok h1 ft1 fk fv (fun acc' => dcG2 ok h ft fi1 h1 ft1 fk fv vs1 P r acc' ρ) xs1 acc (wipeD ρ3 vs1) else dcG2 ok h ft fi1 h1 ft1 fk fv vs1 P r acc ρ
def fDcG2 (ok : KOk) (fi : FI) (h : FG) (ft : FT) (fi1 : FI) (h1 : FG) (ft1 : FT) (fk fv : FE) (vs vs1 : List Nat) : FE := fun ρ Kc => fi ρ fun ρ1 xs => noOwn ρ1 vs ∧ xs.length ≤ sizeLine ∧ dcG2 ok h ft fi1 h1 ft1 fk fv vs1 (fun ys => Kc ρ1 (.dct ys)) xs [] (wipeD ρ1 vs)
abbrev fDc2 (fi : FI) (h : FG) (ft : FT) (fi1 : FI) (h1 : FG) (ft1 : FT) (fk fv : FE) (vs vs1 : List Nat) : FE := fDcG2 kK fi h ft fi1 h1 ft1 fk fv vs vs1
section
variable {G : Glob} {X : Cx} {O : XO} {ni : Nat} {h h1 : FG} {sl vs1 : List Nat} {tg tg1 : Expr}
end
end WL

/-! XL: dicts compared: equal ones, or ones of other sizes. -/
namespace WL
open PySem PySem.Spec PyProof.Rows L2
section
variable {X : Cx}
end
end WL

/-! XM: {**a, k: v}. -/
namespace PySem
open PyProof.Rows PyProof.V PySem.Calls
section
variable {prog : Program} {w : World} {K : Type} [DecidableEq K] {knd : KeyKind prog w K} {A : Around} {E : Value → Shared → Prop} {s : Shared}
end
end PySem
namespace WL
open PySem PySem.Spec PyProof.Rows L2
section
variable {X : Cx}
end
/-- {**a, k: v} -/
def fDM (fa fk fv : FE) : FE := fun ρ Kc => fa ρ fun ρ1 x => match x with
  | .dct ps => noT ps = true ∧ ps.length < sizeLine ∧ fk ρ1 fun ρ2 y => fv ρ2 fun ρ3 z => (key1 y).isSome = true ∧ Kc ρ3 (.dct (putD ps y z))
  | _ => False
section
variable {G : Glob} {X : Cx} {O : XO} {ea ek ev : Expr} {c ca cb : Bool} {n na nb : Nat} {fa fk fv : FE} {pos : Pos}
end
end WL

/-! XN: d.clear(), dicts compared, over data. -/
namespace WL
open PySem PySem.Spec PyProof.Rows L2
section
variable {G : Glob} {X : Cx} {O : XO} {x : Str} {p apos pos : Pos}
def fClear (i : Nat) : FE := fun ρ Kc => ownD ρ i fun ps => noT ps = true ∧ Kc (ρ.set i (some (.own (.dct [])))) .non
end
end WL

/-! XO: x, y = e, f where containers of one's own are among the values. -/
namespace WL
open PySem PySem.Spec PyProof.Rows L2
def slotK : Bool → D → (Slot → Prop) → Prop
  | false, d, P => P (.imm d)
  | true, d, P => ownOf d fun o => P (.own o)
theorem slotK_t {d : D} {P : Slot → Prop} (h : slotK true d P) : ∃ o : Own, d = o.d ∧ o.con = true ∧ P (.own o) := ownOf_inv h
theorem slotK_f {d : D} {P : Slot → Prop} (h : slotK false d P) : P (.imm d) := h
abbrev kdB (b : Bool) : Kd := match b with
  | true => .fr
  | false => .st
def fParK (i j : Nat) (ki kj : Bool) (fa fb : FE) : FS := fun Ed ρ => fa ρ fun ρ1 x => fb ρ1 fun ρ2 y => slotK ki x fun s1 => slotK kj y fun s2 => Ed.nx ((ρ2.set i (some s1)).set j (some s2))
section
variable {G : Glob} {K : PySem.W.Frag} {O : XO} {B : Bs} {S : Fz} {H : Hp} {σ : L2.St} {ρ : EnvD}
theorem nob_set {i : Nat} {p p2 : Addr} {o : Own} (n : Nob (B.aside p o) σ ρ p2) : Nob B (σ.set i (some (.ref p))) (ρ.set i (some (.own o))) p2 := by
  refine ⟨fun k o' h => ?_, fun j o' h => n.nt (j + 1) o' (by simpa using h)⟩
  obtain ⟨h1, h2⟩ := h
  by_cases e : i = k
  · subst e
    rw [List.getElem?_set] at h2
    rw [if_pos rfl] at h2
    split at h2
    · cases h2
      exact n.nt 0 o rfl
    · cases h2
  · rw [List.getElem?_set, if_neg e] at h1 h2
    exact n.no k o' ⟨h1, h2⟩
variable {X : Cx} {rk : Bool} {a b : Expr} {ca cb : Bool} {na nb : Nat} {fa fb : FE} {pos px py pt pt2 : Pos} {x y : Str} {kt k2 : Nat}
theorem par_read (i j : Nat) (ki kj : Bool) {t1 t2 : TE} {Ed : EndsD} {Q : V → V → Hp → Prop}
    (q1 : ∀ (B : Bs) (S : Fz) (H : Hp) (σ : L2.St) (ρ : EnvD) (Kc : EnvD → D → Prop) (Q : VK), Eok G K O B S H σ ρ → S.T + na ≤ limT → fa ρ Kc → (∀ v H' S' ρ' d, Eok G K O B S' H' σ ρ' → Sub na S S' → (ca = true → ρ' = ρ) → ROk G K B S' H' σ ρ' v d (kdB ki) → Kc ρ' d → Q v H') → t1 σ H Q)
    (q2 : ∀ (B : Bs) (S : Fz) (H : Hp) (σ : L2.St) (ρ : EnvD) (Kc : EnvD → D → Prop) (Q : VK), Eok G K O B S H σ ρ → S.T + nb ≤ limT → fb ρ Kc → (∀ v H' S' ρ' d, Eok G K O B S' H' σ ρ' → Sub nb S S' → (cb = true → ρ' = ρ) → ROk G K B S' H' σ ρ' v d (kdB kj) → Kc ρ' d → Q v H') → t2 σ H Q)
    (hki : O.keep i = false) (hkj : O.keep j = false) (I : Eok G K O B S H σ ρ) (hbT : S.T + (na + nb) ≤ limT) (hf : fParK i j ki kj fa fb Ed ρ)
    (hq : ∀ v w H2 S2 ρ', Eok G K O B S2 H2 ((σ.set i (some v)).set j (some w)) ρ' → Sub (na + nb) S S2 → Ed.nx ρ' → Q v w H2) : t1 σ H fun v H1 => t2 σ H1 fun w H2 => Q v w H2 := by
  refine q1 B S H σ ρ _ _ I (by omega) hf fun v H1 S1 ρ1 d1 I1 m1 c1 r1 h1 => ?_
  cases ki with
  | false =>
    refine q2 B S1 H1 σ ρ1 _ _ I1 (by have := m1.lo; omega) h1 fun w H2 S2 ρ2 d2 I2 m2 c2 r2 h2 => ?_
    have r1 : Den G K S2 v d1 := Den.mono m2 r1
    have h2 := slotK_f h2
    cases kj with
    | false => exact hq _ _ _ _ _ ((I2.set hki r1).set hkj r2) (m1.trans m2) h2
    | true =>
      obtain ⟨o2, rfl, hc2, h2⟩ := slotK_t h2
      obtain ⟨p2, o2', rfl, e2, w2, hc2', n2⟩ := r2
      obtain rfl := Own.d_inj hc2 hc2' e2
      refine hq _ _ _ _ _ ((I2.set hki r1).setO hkj hc2 ⟨p2, o2, rfl, rfl, w2, hc2, ⟨fun k o' h => ?_, n2.nt⟩⟩) (m1.trans m2) h2
      obtain ⟨z1, z2⟩ := h
      by_cases e : i = k
      · subst e
        rw [List.getElem?_set, if_pos rfl] at z1
        split at z1 <;> cases z1
      · rw [List.getElem?_set, if_neg e] at z1 z2
        exact n2.no k o' ⟨z1, z2⟩
  | true =>
    obtain ⟨p1, o1, rfl, rfl, w1, hc1, n1⟩ := r1
    refine q2 (B.aside p1 o1) S1 H1 σ ρ1 _ _ (I1.aside w1 n1) (by have := m1.lo; omega) h1 fun w H2 S2 ρ2 d2 I2 m2 c2 r2 h2 => ?_
    obtain ⟨o, e, hco, h3⟩ := slotK_t h2
    clear h2
    obtain rfl := Own.d_inj hco hc1 e.symm
    obtain ⟨I3, w3, n3⟩ := I2.back
    have I4 := I3.setO hki hco ⟨p1, o, rfl, rfl, w3, hco, n3⟩
    cases kj with
    | false => exact hq _ _ _ _ _ (I4.set hkj r2) (m1.trans m2) h3
    | true =>
      obtain ⟨o2, rfl, hc2, h4⟩ := slotK_t h3
      obtain ⟨p2, o2', rfl, e2, w2, hc2', n2⟩ := r2
      obtain rfl := Own.d_inj hc2 hc2' e2
      exact hq _ _ _ _ _ (I4.setO hkj hc2 ⟨p2, o2, rfl, rfl, w2.untmp, hc2, nob_set n2⟩) (m1.trans m2) h4
theorem s_parK (i j : Nat) (ki kj : Bool) {kt k2} (ha : PDe G X O a (kdB ki) ca na fa) (hb : PDe G X O b (kdB kj) cb nb fb) (hN : X.N.Nodup) (hc : X.calm = true := by rfl) (hki : O.keep i = false := by rfl) (hkj : O.keep j = false := by rfl) (hi : X.N[i]? = some x := by rfl) (hj : X.N[j]? = some y := by rfl) (hij : i ≠ j := by decide)
    (hx : X.env.scope.names.lookup x = some .local := by rfl) (hy : X.env.scope.names.lookup y = some .local := by rfl)
    (he : starEach [a, b] X.env = (false, eval a X.env) :: starEach [b] X.env := by rfl) (he2 : starEach [b] X.env = (false, eval b X.env) :: starEach [] X.env := by rfl)
    (hw : swappedStores [.Tuple [.Name x px, .Name y py] kt pt] (.Tuple [a, b] k2 pt2) X.env = pure (some [x, y]) := by rfl)
    (hs : swapsWithSole [.Tuple [.Name x px, .Name y py] kt pt] (.Tuple [a, b] k2 pt2) pos.line X.env = pure false := by rfl) :
    PDs G X O rk (.Assign [.Tuple [.Name x px, .Name y py] kt pt] (.Tuple [a, b] k2 pt2) pos) (na + nb) (fParK i j ki kj fa fb) := by
  obtain ⟨t1, p1, q1⟩ := ha.run
  obtain ⟨t2, p2, q2⟩ := hb.run
  refine ⟨_, ps_par hc hN hi hj hij hx hy (pa_cons p1 (pa_cons p2 pa_nil he2) he) hw hs, fun B S H σ ρ Ed D I hbT hf E => ?_⟩
  exact par_read (Q := fun v w H2 => ∃ v' w', [v, w] = [v', w'] ∧ D.nx ((σ.set i (some v')).set j (some w')) H2) i j ki kj q1 q2 hki hkj I hbT hf fun v w H2 S2 ρ' I2 m2 h => ⟨v, w, rfl, E.nx _ _ _ _ I2 m2 h⟩
/-- .. where a name is a cell -/
theorem s_unpK (i j : Nat) (ki kj : Bool) {kt k2} (ha : PDe G X O a (kdB ki) ca na fa) (hb : PDe G X O b (kdB kj) cb nb fb) (hN : X.N.Nodup) (hc : X.calm = true := by rfl) (hki : O.keep i = false := by rfl) (hkj : O.keep j = false := by rfl) (hi : X.N[i]? = some x := by rfl) (hj : X.N[j]? = some y := by rfl)
    (hx : Loc X.env.scope x := by first | exact Or.inl rfl | exact Or.inr rfl) (hy : Loc X.env.scope y := by first | exact Or.inl rfl | exact Or.inr rfl)
    (he : starEach [a, b] X.env = (false, eval a X.env) :: starEach [b] X.env := by rfl) (he2 : starEach [b] X.env = (false, eval b X.env) :: starEach [] X.env := by rfl)
    (hw : swappedStores [.Tuple [.Name x px, .Name y py] kt pt] (.Tuple [a, b] k2 pt2) X.env = pure none := by rfl)
    (hs : swapsWithSole [.Tuple [.Name x px, .Name y py] kt pt] (.Tuple [a, b] k2 pt2) pos.line X.env = pure false := by rfl)
    (hf1 : X.fn x = true ∨ X.env.scope.names.lookup x = some .local := by first | exact .inl rfl | exact .inr rfl) (hf2 : X.fn y = true ∨ X.env.scope.names.lookup y = some .local := by first | exact .inl rfl | exact .inr rfl)
    (hn : (assignEach [.Name x px, .Name y py] X.env).length = 2 := by rfl) (hst : (assignEach [.Name x px, .Name y py] X.env).findIdx? (·.1) = none := by rfl)
    (h1 : List.map (fun x => x.snd) (assignEach [.Tuple [.Name x px, .Name y py] kt pt] X.env) = [assign (.Tuple [.Name x px, .Name y py] kt pt) X.env] := by rfl)
    (h2 : List.map (fun x => x.snd) (assignEach [.Name x px, .Name y py] X.env) = assign (.Name x px) X.env :: List.map (fun x => x.snd) (assignEach [.Name y py] X.env) := by rfl) (h3 : List.map (fun x => x.snd) (assignEach [.Name y py] X.env) = assign (.Name y py) X.env :: List.map (fun x => x.snd) (assignEach [] X.env) := by rfl) :
    PDs G X O rk (.Assign [.Tuple [.Name x px, .Name y py] kt pt] (.Tuple [a, b] k2 pt2) pos) (na + nb) (fParK i j ki kj fa fb) := by
  obtain ⟨t1, p1, q1⟩ := ha.run
  obtain ⟨t2, p2, q2⟩ := hb.run
  refine ⟨_, ps_asg (pe_tup (pa_cons p1 (pa_cons p2 pa_nil he2) he)) (pg_tup hc (pgs_cons (pg_name hN hi hx hf1) (pgs_cons (pg_name hN hj hy hf2) pgs_nil h3) h2) hn hst) hs hw h1, fun B S H σ ρ Ed D I hbT hf E => ?_⟩
  refine par_read (Q := fun v w H2 => [v, w].length ≤ sizeLine ∧ ∀ p, H2 p = none → ∃ a xs, V.ref p = .ref a ∧ SqT X.K (upd H2 p (.tup [v, w])) a xs ∧ xs.length = 2 ∧ ∃ v' r, xs = v' :: r ∧ ∃ w' r', r = w' :: r' ∧ r' = [] ∧ D.nx ((σ.set i (some v')).set j (some w')) (upd H2 p (.tup [v, w]))) i j ki kj q1 q2 hki hkj I hbT hf fun v w H2 S2 ρ' I2 m2 h => ?_
  refine ⟨by rw [sizeLine_eq]; simp, fun p hp => ?_⟩
  exact ⟨p, [v, w], rfl, SqT.of upd_same, rfl, v, [w], rfl, w, [], rfl, rfl, E.nx _ _ _ _ (I2.laid hp) m2 h⟩
end
end WL

/-! XP: plain facts: dicts whose keys are texts. -/
namespace WL
open PySem PySem.Spec PyProof.Rows L2
section
variable {α β : Type}
/-- a dict with texts as keys -/
def sk (f : α → D) (M : List (Str × α)) : List (D × D) := M.map fun p => (.str p.1, f p.2)
def ks (M : List (Str × α)) : List Str := M.map (·.1)
def getS (M : List (Str × α)) (n : Str) : Option α := (M.find? fun p => decide (p.1 = n)).map (·.2)
theorem getS_nil (n : Str) : getS ([] : List (Str × α)) n = none := rfl
theorem getS_cons (p : Str × α) (M : List (Str × α)) (n : Str) : getS (p :: M) n = if p.1 = n then some p.2 else getS M n := by
  unfold getS
  rw [List.find?_cons]
  by_cases h : p.1 = n
  · rw [if_pos h, decide_eq_true h]; rfl
  · rw [if_neg h, decide_eq_false h]
theorem ks_cons (p : Str × α) (M : List (Str × α)) : ks (p :: M) = p.1 :: ks M := rfl
theorem ks_app (M N : List (Str × α)) : ks (M ++ N) = ks M ++ ks N := List.map_append
theorem ks_len (M : List (Str × α)) : (ks M).length = M.length := List.length_map _
theorem sk_cons (f : α → D) (p : Str × α) (M : List (Str × α)) : sk f (p :: M) = (.str p.1, f p.2) :: sk f M := rfl
theorem getS_mem {M : List (Str × α)} {n : Str} {x : α} (h : getS M n = some x) : (n, x) ∈ M := by
  induction M with
  | nil => cases h
  | cons p M ih =>
    rw [getS_cons] at h
    by_cases e : p.1 = n
    · rw [if_pos e] at h; cases h; obtain ⟨a, b⟩ := p; cases e; exact .head _
    · rw [if_neg e] at h; exact .tail _ (ih h)
theorem getS_of {M : List (Str × α)} (hd : (ks M).Nodup) {n : Str} {x : α} (h : (n, x) ∈ M) : getS M n = some x := by
  induction M with
  | nil => cases h
  | cons p M ih =>
    rw [ks_cons] at hd
    have hd2 := List.nodup_cons.mp hd
    rw [getS_cons]
    rcases List.mem_cons.mp h with e | h
    · rw [← e, if_pos rfl]
    · rw [if_neg fun e => hd2.1 (by rw [e]; exact List.mem_map.mpr ⟨_, h, rfl⟩)]
      exact ih hd2.2 h
theorem getS_none {M : List (Str × α)} {n : Str} : getS M n = none ↔ n ∉ ks M := by
  induction M with
  | nil => simp [getS_nil, ks]
  | cons p M ih =>
    rw [getS_cons, ks_cons, List.mem_cons, not_or]
    by_cases e : p.1 = n
    · rw [if_pos e]; simp [e]
    · rw [if_neg e, ih]; simp [Ne.symm e]
theorem getS_isSome {M : List (Str × α)} {n : Str} : (getS M n).isSome = true ↔ n ∈ ks M := by
  cases h : getS M n with
  | none => have := getS_none.mp h; simp [this]
  | some x => simp [show n ∈ ks M from List.mem_map.mpr ⟨_, getS_mem h, rfl⟩]
theorem getS_ex {M : List (Str × α)} {n : Str} (h : n ∈ ks M) : ∃ x, getS M n = some x ∧ (n, x) ∈ M := by
  obtain ⟨x, e⟩ := Option.isSome_iff_exists.mp (getS_isSome.mpr h)
  exact ⟨x, e, getS_mem e⟩
/-- M with n leading to x -/
def putS (M : List (Str × α)) (n : Str) (x : α) : List (Str × α) := if n ∈ ks M then M.map fun p => if p.1 = n then (p.1, x) else p else M ++ [(n, x)]
theorem ks_put (M : List (Str × α)) (n : Str) (x : α) : ks (putS M n x) = if n ∈ ks M then ks M else ks M ++ [n] := by
  unfold putS
  split
  · unfold ks
    rw [List.map_map]
    refine List.map_congr_left fun p _ => ?_
    simp only [Function.comp]
    split <;> rfl
  · rw [ks_app]; rfl
theorem getS_put (M : List (Str × α)) (n m : Str) (x : α) : getS (putS M n x) m = if n = m then some x else getS M m := by
  unfold putS
  split
  · rename_i h
    induction M with
    | nil => cases h
    | cons p M ih =>
      rw [List.map_cons, getS_cons, getS_cons]
      by_cases e : p.1 = n
      · rw [if_pos e]
        dsimp only
        by_cases e2 : n = m
        · rw [if_pos (e.trans e2), if_pos e2]
        · rw [if_neg fun z => e2 (e ▸ z), if_neg e2, if_neg fun z => e2 (e ▸ z)]
          by_cases h2 : n ∈ ks M
          · rw [ih h2, if_neg e2]
          · congr 1
            rw [List.map_congr_left (g := id) fun q hq => ?_, List.map_id]
            rw [if_neg fun z => h2 (by rw [← z]; exact List.mem_map.mpr ⟨q, hq, rfl⟩)]; rfl
      · rw [if_neg e]
        have h2 : n ∈ ks M := by
          rw [ks_cons] at h
          rcases List.mem_cons.mp h with z | z
          · exact absurd z.symm e
          · exact z
        rw [ih h2]
        by_cases e3 : p.1 = m
        · rw [if_pos e3, if_pos e3, if_neg fun z => e (e3.trans z.symm)]
        · rw [if_neg e3, if_neg e3]
  · rename_i h
    induction M with
    | nil => rw [List.nil_append, getS_cons]
    | cons p M ih =>
      rw [ks_cons, List.mem_cons, not_or] at h
      rw [List.cons_append, getS_cons, getS_cons, ih h.2]
      by_cases e3 : p.1 = m
      · rw [if_pos e3, if_pos e3, if_neg fun z => h.1 (z.trans e3.symm)]
      · rw [if_neg e3, if_neg e3]
theorem cutL_sub (xs : List α) (lo hi : Option Int) : (cutL xs lo hi).Sublist xs := (List.take_sublist _ _).trans (List.drop_sublist _ _)
theorem ks_names (ns : List Str) (g : Str → β) : ks (ns.map fun z => (z, g z)) = ns := by simp [ks, Function.comp_def]
theorem nodup_sub_len {α : Type} [DecidableEq α] : ∀ (xs ys : List α), xs.Nodup → (∀ x ∈ xs, x ∈ ys) → xs.length ≤ ys.length
  | [], _, _, _ => Nat.zero_le _
  | x :: xs, ys, hn, h => by
    have hx := h x (.head _)
    have hn2 := List.nodup_cons.mp hn
    have := nodup_sub_len xs (ys.erase x) hn2.2 fun y hy => (List.mem_erase_of_ne fun (e : y = x) => hn2.1 (by rw [← e]; exact hy)).mpr (h y (.tail _ hy))
    rw [List.length_erase_of_mem hx] at this
    have h0 : 0 < ys.length := List.length_pos_of_mem hx
    rw [List.length_cons]; omega
end
end WL

/-! XQ: name = {k: v for ..}, the name a local. -/
namespace WL
open PySem PySem.Spec PyProof.Rows L2
section
variable {X : Cx}
end
section
variable {G : Glob} {X : Cx} {O : XO} {rk : Bool} {ni : Nat} {h h1 : FG} {tg tg1 : Expr} {y : Str} {py spos : Pos}
end
end WL

/-! XR: comprehensions that answer by a function. -/
namespace WL
open PySem PySem.Spec PyProof.Rows L2
theorem lcL_fun {h : FG} {ft : FT} {fe : FE} {P : List D → Prop} {ρ : EnvD} (g : D → Option D) (xs : List D)
    (hx : ∀ x, x ∈ xs → ∀ Kp : Option D → Prop, Kp (g x) → h x ρ fun ρ1 => ft ρ1 fun ρ2 b => if b = true then fe ρ2 fun _ y => Kp (some y) else Kp none) (hp : P (xs.filterMap g)) : lcL h ft fe P xs [] ρ :=
  lcL_rel (fun x o => o = g x) xs [] (fun x hm Kp hk => hx x hm Kp (hk _ rfl)) fun ys ho => by rw [List.nil_append, ho.filterMap fun x o e => e]; exact hp
/-! ### dicts that lead texts to True -/
theorem map_str_inj : ∀ {ns ms : List Str}, ns.map D.str = ms.map D.str → ns = ms
  | [], [], _ => rfl
  | a :: ns, b :: ms, h => by
    simp only [List.map_cons, List.cons.injEq, D.str.injEq] at h
    rw [h.1, map_str_inj h.2]
  | [], _ :: _, h => by cases h
  | _ :: _, [], h => by cases h
theorem mem_map_str {d : D} {ns : List Str} (h : d ∈ ns.map D.str) : ∃ z ∈ ns, d = .str z := by
  obtain ⟨z, hz, rfl⟩ := List.mem_map.mp h; exact ⟨z, hz, rfl⟩
section
variable {G : Glob} {X : Cx} {O : XO} {a b e : Expr} {ca cb : Bool} {na nb : Nat} {fa fb : FE} {pos p : Pos} {cc k j : Nat} {m : Spc}
end
section
variable {G : Glob} {X : Cx} {O : XO} {a b e : Expr} {ca cb : Bool} {na nb : Nat} {fa fb : FE} {pos p : Pos} {cc k j : Nat} {m : Spc}
end
end WL

/-! XS: repr of any datum; what the representation of tame data is like. -/
namespace WL
open PySem PySem.Spec PyProof.Rows L2
section
variable {X : Cx}
def rReprA (K : PySem.W.Frag) (x : V) (H : Hp) (Q : VK) : Prop := rRepr K x H Q ∨ (∃ i, x = .int i ∧ i.natAbs.log2 < 1920 ∧ Q (.str (toString i)) H) ∨ (∃ z, x = .str z ∧ (reprText z).length ≤ sizeLine ∧ Q (.str (reprText z)) H) ∨
  (∃ b, x = .bl b ∧ Q (.str (if b then "True" else "False")) H) ∨ (x = .non ∧ Q (.str "None") H)
theorem call_reprA (hg : X.A.guards = some []) (hu : X.A.units + 64 < cLine) : CallR X (.builtin "repr") (fun xs H Q => ∃ x, xs = [x] ∧ rReprA X.K x H Q) := by
  intro pins s σ H xs us Q I r h
  obtain ⟨x, rfl, h | ⟨i, rfl, hz, q⟩ | ⟨z, rfl, hz, q⟩ | ⟨b, rfl, q⟩ | ⟨rfl, q⟩⟩ := h
  · exact call_reprD hg hu pins s σ H _ us Q I r ⟨x, rfl, h⟩
  · obtain ⟨u, rfl, t, rfl⟩ := vals1 r
    exact PySem.P.repr_of_int hz ⟨.str _, H, I.tok _, ⟨_, rfl⟩, q⟩
  · obtain ⟨u, rfl, t, rfl⟩ := vals1 r
    exact PySem.P.repr_of_str (hsz := hz) ⟨.str _, H, I.tok _, ⟨_, rfl⟩, q⟩
  · obtain ⟨u, rfl, ru⟩ := vals1 r
    cases ru
    exact PySem.P.repr_of_bool ⟨.str _, H, I.tok _, ⟨_, rfl⟩, q⟩
  · obtain ⟨u, rfl, ru⟩ := vals1 r
    cases ru
    exact PySem.P.repr_of_none ⟨.str _, H, I.tok _, ⟨_, rfl⟩, q⟩
end
def opReprA (x : D) (P : D → Prop) : Prop := plainR x = true ∧ (toR x).showable = true ∧ (toR x).shown.length ≤ sizeLine ∧ (toR x).depth ≤ 60 ∧ P (.str (toR x).shown)
section
variable {G : Glob} {X : Cx} {O : XO} {e : Expr} {ka : Kd} {ca : Bool} {na : Nat} {fa : FE} {pos p : Pos}
theorem s_reprA : R1s G X O (rReprA X.K) opReprA .st := by
  intro B S H σ ρ ka v x Kc Q I r h hq
  obtain ⟨h1, h2, h3, h4, h5⟩ := h
  have fin : ∀ z : Str, z = (toR x).shown → Q (.str z) H := fun z e => by rw [e]; exact hq _ H S _ I (Sub.refl _) (Den.str _) h5
  have big : (∃ a, v = .ref a) → rReprA X.K v H Q := fun hv => .inl ⟨G, S, x, r.own I, I.le, h1, h2, h3, h4, hv, fin _ rfl⟩
  rcases r.own I with r' | ⟨a, o, e, _⟩
  · cases r' with
    | non => exact .inr (.inr (.inr (.inr ⟨rfl, fin _ rfl⟩)))
    | bl b => exact .inr (.inr (.inr (.inl ⟨b, rfl, fin _ (by cases b <;> rfl)⟩)))
    | int i => exact .inr (.inl ⟨i, rfl, by simpa [toR, PyData.showable] using h2, fin _ rfl⟩)
    | str z => exact .inr (.inr (.inl ⟨z, rfl, h3, fin _ rfl⟩))
    | _ => exact big ⟨_, rfl⟩
  · exact big ⟨a, e⟩
theorem e_reprA (ha : PDe G X O e ka ca na fa) (hgd : X.A.guards = some []) (hu : X.A.units + 64 < cLine) (hm : X.mg "repr" = none) (hg : Gl X "repr" := by rfl) (he : starEach [e] X.env = (false, eval e X.env) :: starEach [] X.env := by rfl) (hpl : (backTo pos (starEach [] X.env)).any (·.1) = false := by rfl) : PDe G X O (.Call (.Name "repr" p) [e] [] pos) .st ca na (fUn opReprA fa) :=
  e_callB1 (r := rReprA X.K) (call_reprA hgd hu) (fun v H Q h => ⟨v, rfl, h⟩) s_reprA ha hm hg (by rfl) (by decide) (by decide) he hpl
end
/-! ### tame data -/
theorem okS_iff {z : Str} : PyData.strOk z = true ↔ ∀ c ∈ z.cps.toList, c < 0x110000 := by
  show z.cps.all (· < 0x110000) = true ↔ _
  rw [← Array.all_toList, List.all_eq_true]
  exact ⟨fun h c hc => of_decide_eq_true (h c hc), fun h c hc => decide_eq_true (h c hc)⟩
theorem app_l (a b : Str) : (a ++ b).cps.toList = a.cps.toList ++ b.cps.toList := by
  show (a.cps ++ b.cps).toList = _
  simp
theorem len_l (z : Str) : z.cps.toList.length = z.length := by
  show _ = z.cps.size; simp
theorem okS_app {a b : Str} (h1 : PyData.strOk a = true) (h2 : PyData.strOk b = true) : PyData.strOk (a ++ b) = true := by
  rw [okS_iff] at *
  intro c hc
  rw [app_l] at hc
  rcases List.mem_append.mp hc with h | h
  · exact h1 c h
  · exact h2 c h
theorem okS_of (s : String) : PyData.strOk (Str.ofString s) = true := by
  rw [okS_iff]
  intro c hc
  have : c ∈ (s.toList.map Char.toNat) := by
    have e : (Str.ofString s).cps.toList = s.toList.map Char.toNat := by
      rw [Str.ofString_eq_toList]
    rw [← e]; exact hc
  obtain ⟨d, _, rfl⟩ := List.mem_map.mp this
  have := d.valid
  rcases this with h | ⟨_, h⟩
  · show d.val.toNat < _
    have : d.val.toNat < 0xd800 := h
    omega
  · exact h
def safe (c : Nat) : Bool := decide (32 ≤ c) && (decide (c ≤ 126) && (c != 39 && c != 92))
theorem safe_char : ∀ c, c < 127 → safe c = true → Builtin.Str.reprChar 39 c = [c] := by decide +kernel
theorem safe_lt {c : Nat} (h : safe c = true) : c < 127 ∧ c ≠ 39 := by
  simp only [safe, Bool.and_eq_true, decide_eq_true_eq, bne_iff_ne] at h
  omega
theorem fold_safe : ∀ (l : List Nat) (acc : Array Nat), (∀ c ∈ l, safe c = true) → (l.foldl (fun out c => out ++ (Builtin.Str.reprChar 39 c).toArray) acc).toList = acc.toList ++ l
  | [], acc, _ => by simp
  | c :: l, acc, h => by
    have hc := h c (.head _)
    rw [List.foldl_cons, fold_safe l _ fun d hd => h d (.tail _ hd), safe_char c (safe_lt hc).1 hc]
    simp
theorem reprText_safe {z : Str} (h : z.cps.toList.all safe = true) : (reprText z).cps.toList = 39 :: (z.cps.toList ++ [39]) := by
  have h := List.all_eq_true.mp h
  have hq : reprQuote z = 39 := by
    unfold reprQuote
    have : z.cps.contains 39 = false := by
      rw [Bool.eq_false_iff]
      intro e
      have : 39 ∈ z.cps := by simpa using e
      exact (safe_lt (h 39 (by simpa using this))).2 rfl
    rw [this]; rfl
  unfold reprText
  rw [hq]
  show ((z.cps.foldl (fun out c => out ++ (Builtin.Str.reprChar 39 c).toArray) #[39]).push 39).toList = _
  rw [Array.toList_push, ← Array.foldl_toList, fold_safe _ _ h]
  simp
theorem len_of {z : Str} {n : Nat} (e : z.cps.toList.length = n) : z.length = n := by rw [← e, len_l]
mutual
/-- tame data: small numbers, texts of plain signs -/
def rOk : D → Bool
  | .non => true
  | .bl _ => true
  | .int i => decide (i.natAbs < 10 ^ 40)
  | .str z => z.cps.toList.all safe
  | .tup xs => rOks xs
  | .lst xs => rOks xs
  | .wtp xs => rOks xs
  | .dct ps => rOkp ps
  | _ => false
def rOks : List D → Bool
  | [] => true
  | x :: xs => rOk x && rOks xs
def rOkp : List (D × D) → Bool
  | [] => true
  | (k, v) :: r => rOk k && (rOk v && rOkp r)
end
mutual
def rsz : D → Nat
  | .str z => z.length + 2
  | .tup xs => rszs xs + 4
  | .lst xs => rszs xs + 4
  | .wtp xs => rszs xs + 4
  | .dct ps => rszp ps + 4
  | _ => 41
def rszs : List D → Nat
  | [] => 0
  | x :: xs => rsz x + 2 + rszs xs
def rszp : List (D × D) → Nat
  | [] => 0
  | (k, v) :: r => rsz k + 2 + rsz v + 2 + rszp r
end
mutual
def rdep : D → Nat
  | .tup xs => rdeps xs + 1
  | .lst xs => rdeps xs + 1
  | .wtp xs => rdeps xs + 1
  | .dct ps => rdepp ps + 1
  | _ => 0
def rdeps : List D → Nat
  | [] => 0
  | x :: xs => max (rdep x) (rdeps xs)
def rdepp : List (D × D) → Nat
  | [] => 0
  | (k, v) :: r => max (max (rdep k) (rdep v)) (rdepp r)
end
theorem piled_cons' (t : Str) (ts : List Str) : piled (t :: ts) = t.length + 2 + piled ts := by simp [piled]
theorem textFrom_up : ∀ (ts : List Str) (k : Nat) (acc : Str), (textFrom k acc ts).length ≤ acc.length + piled ts
  | [], _, acc => Nat.le_refl _
  | t :: r, k, acc => by
    have h := textFrom_up r (k + 1) (acc ++ (if k > 0 then ", " else "" : String) ++ t)
    have e : (acc ++ (if k > 0 then ", " else "" : String) ++ t).length ≤ acc.length + 2 + t.length := by
      rw [strLen_append, strLen_append]
      split
      · show acc.length + 2 + _ ≤ _; omega
      · show acc.length + 0 + _ ≤ _; omega
    rw [piled_cons']
    show (textFrom (k + 1) _ r).length ≤ _
    omega
theorem textFrom_ok : ∀ (ts : List Str) (k : Nat) (acc : Str), PyData.strOk acc = true → (∀ t ∈ ts, PyData.strOk t = true) → PyData.strOk (textFrom k acc ts) = true
  | [], _, acc, h, _ => h
  | t :: r, k, acc, h, ht => by
    refine textFrom_ok r (k + 1) _ (okS_app (okS_app h (okS_of _)) (ht t (.head _))) fun u hu => ht u (.tail _ hu)
theorem join_ok : ∀ (ts : List Str), (∀ t ∈ ts, PyData.strOk t = true) → PyData.strOk (Str.join ", " ts) = true
  | [], _ => by decide +kernel
  | [x], h => h x (.head _)
  | x :: y :: r, h => by
    show PyData.strOk (x ++ ", " ++ Str.join ", " (y :: r)) = true
    exact okS_app (okS_app (h x (.head _)) (okS_of _)) (join_ok (y :: r) fun t ht => h t (.tail _ ht))
theorem join_up (ts : List Str) : (Str.join ", " ts).length ≤ piled ts := by
  by_cases h : ts = []
  · subst h; exact Nat.le_refl _
  · have := join_length_add ts h
    omega
theorem list_up (ts : List Str) : (listText ts).length ≤ piled ts + 4 := by
  unfold listText
  have := textFrom_up ts 0 "["
  rw [strLen_append]
  have e : (("[" : String) : Str).length = 1 := rfl
  have e2 : (("]" : String) : Str).length = 1 := rfl
  rw [e] at this
  rw [e2]
  omega
theorem tuple_up (ts : List Str) : (tupleText ts).length ≤ piled ts + 4 := by
  unfold tupleText
  have := join_up ts
  rw [strLen_append, strLen_append]
  have e : (("(" : String) : Str).length = 1 := rfl
  have e3 : ((if ts.length == 1 then ",)" else ")" : String) : Str).length ≤ 2 := by split <;> decide
  rw [e]
  omega
theorem dict_up (ts : List Str) : (dictText ts).length ≤ piled ts + 4 := by
  unfold dictText
  have := join_up ts
  rw [strLen_append, strLen_append]
  have e : (("{" : String) : Str).length = 1 := rfl
  have e2 : (("}" : String) : Str).length = 1 := rfl
  rw [e, e2]
  omega
theorem int_up {i : Int} (h : i.natAbs < 10 ^ 40) : (Str.ofString (toString i)).length ≤ 41 := by
  by_cases h0 : 0 ≤ i
  · have := toString_length_le (v := i) h0 (k := 40) (by decide) (by omega)
    omega
  · have e := len_text_negI (n := i) (by omega)
    have := toString_length_le (v := 0 - i) (by omega) (k := 40) (by decide) (by omega)
    omega
mutual
theorem rOk_ok : ∀ d : D, rOk d = true → plainR d = true ∧ (toR d).showable = true ∧ (toR d).shown.length ≤ rsz d ∧ PyData.strOk (toR d).shown = true ∧ (toR d).depth ≤ rdep d
  | .non, _ => by simp only [plainR, toR, rsz, rdep]; exact ⟨trivial, rfl, by decide, okS_of _, Nat.le_refl _⟩
  | .bl b, _ => by simp only [plainR, toR, rsz, rdep]; cases b <;> exact ⟨trivial, rfl, by decide, okS_of _, Nat.le_refl _⟩
  | .int i, h => by
    simp only [rOk, decide_eq_true_eq] at h
    simp only [plainR, toR, rsz, rdep, PyData.showable, PyData.shown, PyData.depth]
    refine ⟨trivial, decide_eq_true ?_, int_up h, okS_of _, Nat.le_refl _⟩
    by_cases e : i.natAbs = 0
    · rw [e]; decide
    · exact Nat.lt_of_lt_of_le ((Nat.log2_lt e).mpr (Nat.lt_of_lt_of_le h (by decide : 10 ^ 40 ≤ 2 ^ 140))) (by decide)
  | .str z, h => by
    simp only [rOk] at h
    simp only [plainR, toR, rsz, rdep, PyData.showable, PyData.shown, PyData.depth]
    have e := reprText_safe h
    refine ⟨trivial, trivial, ?_, ?_, Nat.le_refl _⟩
    · rw [len_of (congrArg List.length e), List.length_cons, List.length_append, len_l]; exact Nat.le_refl _
    · rw [okS_iff, e]
      intro c hc
      rcases List.mem_cons.mp hc with h1 | hc
      · omega
      · rcases List.mem_append.mp hc with h1 | h1
        · have := (safe_lt (List.all_eq_true.mp h c h1)).1; omega
        · have := List.mem_singleton.mp h1; omega
  | .tup xs, h => by
    simp only [rOk] at h
    obtain ⟨a, b, c, d, e⟩ := rOks_ok xs h
    simp only [plainR, toR, rsz, rdep, PyData.showable, PyData.shown, PyData.depth]
    have := tuple_up (PyData.shownAll (toRs xs))
    exact ⟨a, b, by omega, okS_app (okS_app (okS_of _) (join_ok _ d)) (okS_of _), by omega⟩
  | .lst xs, h => by
    simp only [rOk] at h
    obtain ⟨a, b, c, d, e⟩ := rOks_ok xs h
    simp only [plainR, toR, rsz, rdep, PyData.showable, PyData.shown, PyData.depth]
    have := list_up (PyData.shownAll (toRs xs))
    exact ⟨a, b, by omega, okS_app (textFrom_ok _ _ _ (okS_of _) d) (okS_of _), by omega⟩
  | .wtp xs, h => by
    simp only [rOk] at h
    obtain ⟨a, b, c, d, e⟩ := rOks_ok xs h
    simp only [plainR, toR, rsz, rdep, PyData.showable, PyData.shown, PyData.depth]
    have := tuple_up (PyData.shownAll (toRs xs))
    exact ⟨a, b, by omega, okS_app (okS_app (okS_of _) (join_ok _ d)) (okS_of _), by omega⟩
  | .dct ps, h => by
    simp only [rOk] at h
    obtain ⟨a, b, c, d, e⟩ := rOkp_ok ps h
    simp only [plainR, toR, rsz, rdep, PyData.showable, PyData.shown, PyData.depth]
    have := dict_up (PyData.shownKv (toRp ps))
    exact ⟨a, b, by omega, okS_app (okS_app (okS_of _) (join_ok _ d)) (okS_of _), by omega⟩
  | .wls _, h => by simp [rOk] at h
  | .ins _ _, h => by simp [rOk] at h
  | .cls _, h => by simp [rOk] at h
  | .tok _, h => by simp [rOk] at h
  | .fn _ _ _, h => by simp [rOk] at h
  | .exc _ _, h => by simp [rOk] at h
theorem rOks_ok : ∀ xs : List D, rOks xs = true → plainRs xs = true ∧ PyData.showableAll (toRs xs) = true ∧ piled (PyData.shownAll (toRs xs)) ≤ rszs xs ∧ (∀ t ∈ PyData.shownAll (toRs xs), PyData.strOk t = true) ∧ PyData.depthAll (toRs xs) ≤ rdeps xs
  | [], _ => by simp only [plainRs, toRs, rszs, rdeps, PyData.showableAll, PyData.shownAll, PyData.depthAll]; exact ⟨trivial, trivial, Nat.le_refl _, (fun _ h => nomatch h), Nat.le_refl _⟩
  | x :: xs, h => by
    simp only [rOks, Bool.and_eq_true] at h
    obtain ⟨a, b, c, d, e⟩ := rOk_ok x h.1
    obtain ⟨a2, b2, c2, d2, e2⟩ := rOks_ok xs h.2
    simp only [plainRs, toRs, rszs, rdeps, PyData.showableAll, PyData.shownAll, PyData.depthAll]
    refine ⟨by rw [a, a2]; rfl, by rw [b, b2]; rfl, by rw [piled_cons']; omega, fun t ht => ?_, by omega⟩
    rcases List.mem_cons.mp ht with e | ht
    · rw [e]; exact d
    · exact d2 t ht
theorem rOkp_ok : ∀ ps : List (D × D), rOkp ps = true → plainRp ps = true ∧ PyData.showableKv (toRp ps) = true ∧ piled (PyData.shownKv (toRp ps)) ≤ rszp ps ∧ (∀ t ∈ PyData.shownKv (toRp ps), PyData.strOk t = true) ∧ PyData.depthKv (toRp ps) ≤ rdepp ps
  | [], _ => by simp only [plainRp, toRp, rszp, rdepp, PyData.showableKv, PyData.shownKv, PyData.depthKv]; exact ⟨trivial, trivial, Nat.le_refl _, (fun _ h => nomatch h), Nat.le_refl _⟩
  | (k, v) :: r, h => by
    simp only [rOkp, Bool.and_eq_true] at h
    obtain ⟨a0, b0, c0, d0, e0⟩ := rOk_ok k h.1
    obtain ⟨a, b, c, d, e⟩ := rOk_ok v h.2.1
    obtain ⟨a2, b2, c2, d2, e2⟩ := rOkp_ok r h.2.2
    simp only [plainRp, toRp, rszp, rdepp, PyData.showableKv, PyData.shownKv, PyData.depthKv]
    refine ⟨by rw [a, a2]; rfl, by rw [b0, b, b2]; rfl, ?_, fun t ht => ?_, by omega⟩
    · rw [piled_cons', strLen_append, strLen_append]
      have e4 : ((": " : String) : Str).length = 2 := rfl
      rw [e4]
      omega
    · rcases List.mem_cons.mp ht with e | ht
      · rw [e]; exact okS_app (okS_app d0 (okS_of _)) d
      · exact d2 t ht
end
/-- the representation of tame data, in one step -/
theorem opReprA_of {d : D} {P : D → Prop} (h : rOk d = true) (hz : rsz d ≤ sizeLine) (hd : rdep d ≤ 60) (hp : P (.str (toR d).shown)) : opReprA d P := by
  obtain ⟨a, b, c, _, e⟩ := rOk_ok d h
  exact ⟨a, b, Nat.le_trans c hz, Nat.le_trans e hd, hp⟩
theorem shown_ok {d : D} (h : rOk d = true) : PyData.strOk (toR d).shown = true := (rOk_ok d h).2.2.2.1
end WL

/-! XT: a list of one's own, lent to a def that only reads it. -/
namespace WL
open PySem PySem.Spec PyProof.Rows L2
def BorOk (G : Glob) (K : PySem.W.Frag) (S : Fz) (σ : L2.St) (ρ : EnvD) (i : Nat) (v : V) (d : D) : Prop := Den G K S v d ∨ ∃ xs, d = .lst xs ∧ ρ[i]? = some (some (.own (.lst xs))) ∧ σ[i]? = some (some v)
structure PBa (G : Glob) (X : Cx) (O : XO) (i : Nat) (es : List Expr) (n : Nat) (f : FA) : Prop where
  run : ∃ t : TA, PA X es t ∧ ∀ (B : Bs) (S : Fz) (H : Hp) (σ : L2.St) (ρ : EnvD) (Kc : EnvD → List D → Prop) (Q : List V → Hp → Prop), Eok G X.K O B S H σ ρ → S.T + n ≤ limT → f ρ Kc →
    (∀ vs H' S' ds, Eok G X.K O B S' H' σ ρ → Sub n S S' → Paired (BorOk G X.K S' σ ρ i) vs ds → Kc ρ ds → Q vs H') → t σ H Q
def fOwnL (i : Nat) : FE := fun ρ Kc => ownL ρ i fun xs => Kc ρ (.lst xs)
def fCallB (m : Spc) (dds : List D) (fa : FA) : FE := fun ρ Kc => fa ρ fun ρ1 ds => ds.length + dds.length = m.ar ∧ m.pre (ds ++ dds) ∧ ∀ d, m.post (ds ++ dds) d → flatD d = true ∧ Kc ρ1 d
section
variable {G : Glob} {X : Cx} {O : XO} {i : Nat} {x : Str} {p pos : Pos} {a e : Expr} {es : List Expr} {k j : Nat} {m : Spc} {dds : List D} {na nr : Nat} {f : FE} {fa fr : FA}
theorem BorOk.mono {n : Nat} {K : PySem.W.Frag} {S S' : Fz} {σ : L2.St} {ρ : EnvD} {v : V} {d : D} (m : Sub n S S') (h : BorOk G K S σ ρ i v d) : BorOk G K S' σ ρ i v d := h.imp_left fun h => Den.mono m h
end
end WL

/-! XU: what the end of the top says of own classes. -/
namespace WL
open PySem PySem.Spec PyProof.Rows L2
section
variable {G : Glob} {K : PySem.W.Frag} {h : Heap} {mg : Str → Option Value} {cs : List (Str × List Str)} {fs : List Str} {x : Str} {ns : List Str} {c : Nat}
theorem clTb_gl (X : K.In h) (Gn : h.Ns mainGlobals mg) (t : clTbB cs fs K = true) (hc : cs[c]? = some (x, ns)) : mg x = some (.ref (He.ga K x)) := by
  have := List.all_eq_true.mp t c (List.mem_range.mpr (List.getElem?_eq_some_iff.mp hc).1)
  rw [hc] at this
  obtain ⟨h0, _⟩ := He.ba this
  exact PySem.W.mg_of X Gn (He.eqO_ok h0)
theorem full_of (e : G.ct = ctOf K cs) (hc : cs[c]? = some (x, ns)) : ∀ fs : List (Str × D), fs.map (·.1) = (cs[c]?.map (·.2)).getD [] → Own.full G (.ins c fs) := by
  intro fs h
  rw [hc] at h
  show ∃ C, G.ct c = some (C, fs.map (·.1))
  refine ⟨He.ga K x, ?_⟩
  rw [e]
  unfold ctOf
  rw [hc, h]; rfl
/-- C(e, ..), every parameter written, though there are defaults -/
theorem mkMkIB {P : Program} {w : World} {base : Heap} {k : Nat} {m : Spc} {n0 : Str} {ps : List Str} {fd : FuncData} (T : ClTb G K mg cs fs) (hc : cs[c]? = some (x, ns)) (hgl : mg x = some (.ref (He.ga K x))) (M : (He.Fa.mkr x).ok K = true)
    (F : FnG P w K mg base k (He.ma K (He.ga K x) "__init__") fd (n0 :: ps) (spI G K ps.length m c)) (har : ps.length = m.ar) (hb : Binds K fd (n0 :: ps) []) : MkI G P w K mg base x k m c [] := by
  obtain ⟨C, hm, hct, _⟩ := T.ct c x ns hc
  rw [hgl] at hm; cases hm
  exact ⟨_, _, fd, n0, ps, [], [], ns, He.mkr_ok M, F, hgl, hct, hb, .nil, fun _ => .nil, har⟩
theorem bindsAll {qual nm : Str} {params : Arguments} {body : List Stmt} {scope : Scope} {dvs : List V} {kws : List (Str × V)} {f : Addr} {fd : FuncData} {ps : List Str} (D : FunD K nm qual params body scope dvs kws f fd) (hd : dvs ≠ [])
    (h : ∀ (T : Addr) (kV doc pm : Value) (an : Option Addr) (cdv ct : Value) (us its : List Value), us.length = ps.length → its.length = dvs.length →
      ∃ k, bindArgs (PySem.W.fnOf nm qual params body scope (.ref T) kV doc pm an cdv ct) ⟨us, []⟩ = seqItems? (.ref T) >>= k ∧ k (some its.toArray) = pure (ps.zip us)) : Binds K fd ps [] := by
  obtain ⟨ds, h1, h2⟩ := D.binds1 (ps := ps) ps.length dvs.length hd (by omega) fun T kV doc pm an cdv ct us its l1 l2 => by
    obtain ⟨k, e1, e2⟩ := h T kV doc pm an cdv ct us its l1 l2
    exact ⟨k, e1, by rw [e2, ← l2, List.drop_length, List.append_nil]⟩
  rw [List.drop_length] at h1
  cases h1
  exact h2
end
end WL

/-! XV: lists and dicts of one's own, lent to a def that may change them. -/
namespace WL
open PySem PySem.Spec PyProof.Rows L2
/-- a datum that is a list or a dict, as a slot's own -/
def ownS (d : D) : Option Slot := match d with
  | .lst xs => some (.own (.lst xs))
  | .dct ps => some (.own (.dct ps))
  | d => some (.imm d)
/-- the slots at the start: those at ls are lent -/
def startM (n : Nat) (ls : List Nat) (ds : List D) : EnvD := (ds.zipIdx.map fun p => if ls.contains p.2 then ownS p.1 else some (.imm p.1)) ++ List.replicate (n - ds.length) none
abbrev Bs.lnt (H : Hp) (S : Fz) (as : List Addr) (sl : Nat → Option (Option V)) : Bs := { H0 := fun p => if p ∈ as then none else H p, S0 := S.h, tmp := [], sl := sl }
/-- the arguments lent -/
structure LentOk (G : Glob) (K : PySem.W.Frag) (S : Fz) (H : Hp) (ls : List Nat) (vs : List V) (ds : List D) (as : List Addr) : Prop where
  len : vs.length = ds.length
  im : ∀ i d, i ∉ ls → ds[i]? = some d → ∃ v, vs[i]? = some v ∧ Den G K S v d
  ow : ∀ i ∈ ls, ∃ a o, ds[i]? = some (Own.d o) ∧ o.con = true ∧ vs[i]? = some (.ref a) ∧ a ∈ as ∧ S a = none ∧ ¬ G.M a ∧ OwnAt G K S H a o
  ap : ∀ i ∈ ls, ∀ j ∈ ls, vs[i]? = vs[j]? → i = j
  all : ∀ a ∈ as, ∃ i ∈ ls, vs[i]? = some (.ref a)
/-- .. and behind the call -/
structure BackOk (G : Glob) (K : PySem.W.Frag) (S : Fz) (H : Hp) (ls : List Nat) (vs : List V) (os : List D) : Prop where
  len : os.length = ls.length
  ow : ∀ (k i : Nat) d, ls[k]? = some i → os[k]? = some d → ∃ a o, d = Own.d o ∧ o.con = true ∧ vs[i]? = some (.ref a) ∧ S a = none ∧ OwnAt G K S H a o
def spM (G : Glob) (K : PySem.W.Frag) (n : Nat) (ls : List Nat) (m : Spc) : Sp := fun vs H Q _ => ∃ (S : Fz) (ds : List D) (as : List Addr), vs.length = n ∧ Sta G K (Bs.lnt H S as fun i => (L2.start [] vs)[i]?) S H ∧ S.T + m.cost ≤ limT ∧ LentOk G K S H ls vs ds as ∧ m.pre ds ∧
  (∀ v H' S' d os, Sta G K (Bs.lnt H S as fun i => (L2.start [] vs)[i]?) S' H' → Sub m.cost S S' → Den G K S' v d → BackOk G K S' H' ls vs os → m.post ds (.tup (d :: os)) → Q v H')
def endsM (ls : List Nat) (P : D → Prop) : EndsD := { nx := fun ρ => ∃ os, lentD ρ ls = some os ∧ P (.tup (.non :: os)), rt := P }
def fRetM (is : List Nat) (f : FE) : FS := fun Ed ρ => f ρ fun ρ' d => ∃ os, lentD ρ' is = some os ∧ Ed.rt (.tup (d :: os))
section
variable {G : Glob} {X : Cx} {O : XO} {e : Expr} {k : Kd} {c : Bool} {n : Nat} {f : FE} {pos : Pos}
end
/-! ### calls -/
structure FnM (G : Glob) (P : Program) (w : World) (K : PySem.W.Frag) (mg : Str → Option Value) (base : Heap) (x : Str) (k : Nat) (ls : List Nat) (m : Spc) : Prop where
  ex : ∃ (f : Addr) (fd : FuncData) (ps : List Str), FnG P w K mg base k f fd ps (spM G K ps.length ls m) ∧ mg x = some (.ref f) ∧ PySem.W.keepIn K (.ref f) = true ∧ Binds K fd ps [] ∧ ps.length = m.ar
/-- slots hold what came back -/
def setM (ρ : EnvD) : List Nat → List D → EnvD
  | i :: is, d :: os => setM (ρ.set i (ownS d)) is os
  | _, _ => ρ
/-- an argument: frozen, or of slot i -/
inductive ArgM (G : Glob) (K : PySem.W.Frag) (S : Fz) (σ : L2.St) (ρ : EnvD) : List (Option Nat) → List V → List D → Prop
  | nil : ArgM G K S σ ρ [] [] []
  | im {sh vs ds v d} : Den G K S v d → ArgM G K S σ ρ sh vs ds → ArgM G K S σ ρ (none :: sh) (v :: vs) (d :: ds)
  | ow {sh vs ds v o} {i : Nat} : ρ[i]? = some (some (.own o)) → o.con = true → σ[i]? = some (some v) → ArgM G K S σ ρ sh vs ds → ArgM G K S σ ρ (some i :: sh) (v :: vs) (o.d :: ds)
structure PMa (G : Glob) (X : Cx) (O : XO) (sh : List (Option Nat)) (es : List Expr) (n : Nat) (f : FA) : Prop where
  run : ∃ t : TA, PA X es t ∧ ∀ (B : Bs) (S : Fz) (H : Hp) (σ : L2.St) (ρ : EnvD) (Kc : EnvD → List D → Prop) (Q : List V → Hp → Prop), Eok G X.K O B S H σ ρ → S.T + n ≤ limT → f ρ Kc →
    (∀ vs H' S' ds, Eok G X.K O B S' H' σ ρ → Sub n S S' → ArgM G X.K S' σ ρ sh vs ds → Kc ρ ds → Q vs H') → t σ H Q
theorem ArgM.mono {G : Glob} {K : PySem.W.Frag} {S S' : Fz} {σ : L2.St} {ρ : EnvD} {n : Nat} {sh vs ds} (m : Sub n S S') (h : ArgM G K S σ ρ sh vs ds) : ArgM G K S' σ ρ sh vs ds := by
  induction h with
  | nil => exact .nil
  | im h _ ih => exact .im (h.mono m) ih
  | ow a b c _ ih => exact .ow a b c ih
def fOwnM (i : Nat) : FE := fun ρ Kc => ∃ o, ρ[i]? = some (some (.own o)) ∧ o.con = true ∧ Kc ρ o.d
def fCallM (m : Spc) (is : List Nat) (fa : FA) : FE := fun ρ Kc => fa ρ fun ρ1 ds => ds.length = m.ar ∧ m.pre ds ∧ ∀ d os, m.post ds (.tup (d :: os)) → os.length = is.length → Kc (setM ρ1 is os) d
section
variable {G : Glob} {X : Cx} {O : XO} {i : Nat} {x : Str} {p pos : Pos} {a e : Expr} {es : List Expr} {k j : Nat} {m : Spc} {na nr : Nat} {f : FE} {fa fr : FA} {sh : List (Option Nat)}
end
section
variable {G : Glob} {K : PySem.W.Frag} {O : XO} {B : Bs} {S S' : Fz} {H H' : Hp} {σ : L2.St} {ρ : EnvD} {as : List Addr} {sl : Nat → Option (Option V)}
end
section
variable {G : Glob} {X : Cx} {O : XO} {x : Str} {p pos : Pos} {e : Expr} {es : List Expr} {k j : Nat} {m : Spc} {na : Nat} {fa : FA} {sh : List (Option Nat)}
end
end WL

/-! XW: xs[::-1], range with a step, min, max of lists, dicts of one's own: get, pop, d[k] += e; dicts walked whose keys are tuples. -/
namespace WL
open PySem PySem.Spec PyProof.Rows L2
section
variable {G : Glob} {X : Cx} {O : XO} {a b e : Expr} {ca cb c : Bool} {na nb n : Nat} {fa fb f : FE} {ka kb : Kd} {pos p p1 p2 p3 apos : Pos} {x : Str}
/-! ### xs[::-1] -/
def opRevL (x : D) (P : D → Prop) : Prop := match x with
  | .lst xs => P (.lst xs.reverse)
  | _ => False
theorem paired_rev {α β : Type} {F : α → β → Prop} : ∀ {l : List α} {m : List β}, Paired F l m → Paired F l.reverse m.reverse
  | _, _, .nil => .nil
  | _, _, .cons r t => by rw [List.reverse_cons, List.reverse_cons]; exact paired_append (paired_rev t) (.cons r .nil)
theorem e_revL {kk : Nat} (ha : PDe G X O a ka ca na fa) : PDe G X O (.Subscript a (.Slice none none (some (.UnaryOp .USub (.Constant (.int 1) kk p1) p2)) p3) pos) .fr ca na (fUn opRevL fa) := by
  obtain ⟨t, pa, q⟩ := ha.run
  refine ⟨_, pe_revL pa, fun B S H σ ρ Kc Q I hb hf hq => ?_⟩
  refine q B S H σ ρ _ _ I hb hf fun v H1 S1 ρ1 d I1 m1 c1 r1 h1 => ?_
  unfold opRevL at h1
  split at h1
  · obtain ⟨a, vs, rfl, ha, la⟩ := r1.lst I1
    refine ⟨a, vs, rfl, SqL.of ha, fun p hp => ?_⟩
    obtain ⟨I', r'⟩ := I1.lays (u := .lst vs.reverse) (o := .lst _) hp ⟨_, upd_same, paired_rev la⟩
    exact hq _ _ _ _ _ I' m1 c1 r' h1
  · exact h1.elim

/-! ### min, max of a list of ints -/
/-! ### range(i, j, c) -/
def rngC (i c : Int) (n : Nat) : List D := (List.range n).map fun k : Nat => D.int (i + (k : Int) * c)
def int3 (ds : List D) (P : Int → Int → Int → Prop) : Prop := match ds with
  | [.int i, .int j, .int k] => P i j k
  | _ => False
def fRng3 (fa : FA) : FI := fun ρ Kc => fa ρ fun ρ' ds => int3 ds fun i j c => ∃ n, RgC i j c n ∧ Kc ρ' (rngC i c n)
end
end WL

/-! YA: dicts of one's own: get, pop, d[k] += e; dicts with tuple keys walked. -/
namespace WL
open PySem PySem.Spec PyProof.Rows L2
section
variable {X : Cx}
end

section
variable {G : Glob} {X : Cx} {O : XO} {e f : Expr} {ca cb c : Bool} {na nb n : Nat} {fa fb : FE} {pos apos p : Pos} {x : Str}
/-- d.get(e, f), d a dict of slot i -/
def fGetO (i : Nat) (fa fb : FE) : FE := fun ρ Kc => ownD ρ i fun _ => fa ρ fun ρ1 y => fb ρ1 fun ρ2 z => ownD ρ2 i fun ps => fitsP ps y = true ∧ Kc ρ2 ((lookD ps y).getD z)
/-! ### d[k] += e -/
def fDAug (i : Nat) (g : Int → Int → Int) (fy fe : FE) : FS := fun Ed ρ => ownD ρ i fun _ => fy ρ fun ρ1 y => ownD ρ1 i fun ps => fits ps y = true ∧ ∃ u : Int, lookD ps y = some (.int u) ∧ fe ρ1 fun ρ2 d => intOf d fun v => (fitsP ps y = true ∧ ps.length < sizeLine) ∧ Ed.nx (ρ2.set i (some (.own (.dct (putD ps y (.int (g u v)))))))
/-! ### d.pop(k) -/
def dropD (ps : List (D × D)) (k : D) : List (D × D) := ps.filter fun p => decide (keyOf p.1 ≠ keyOf k)
theorem DenK.drop {K : PySem.W.Frag} {S : Fz} (k : Key) : ∀ {kvs : List (Key × V)} {ps : List (D × D)}, DenK G K S kvs ps → DenK G K S (dropK kvs k) (dropD ps (keyD k))
  | _, _, .nil => .nil
  | _, _, @Paired.cons _ _ _ p q kvs ps h l => by
    have ih := DenK.drop k l
    by_cases e : p.1 = k
    · have z1 : dropK (p :: kvs) k = dropK kvs k := List.filter_cons_of_neg (by simp [e])
      have z2 : dropD (q :: ps) (keyD k) = dropD ps (keyD k) := List.filter_cons_of_neg (by rw [h.1, keyOf_k, keyOf_k]; simp [e])
      rw [z1, z2]; exact ih
    · have z1 : dropK (p :: kvs) k = p :: dropK kvs k := List.filter_cons_of_pos (by simp [e])
      have z2 : dropD (q :: ps) (keyD k) = q :: dropD ps (keyD k) := List.filter_cons_of_pos (by rw [h.1, keyOf_k, keyOf_k]; simp [e])
      rw [z1, z2]; exact .cons h ih
theorem DenT.drop {K : PySem.W.Frag} {S : Fz} (k : List Key) : ∀ {kvs : List (List Key × V)} {ps : List (D × D)}, DenT G K S kvs ps → DenT G K S (dropK kvs k) (dropD ps (.tup (k.map keyD)))
  | _, _, .nil => .nil
  | _, _, @Paired.cons _ _ _ p q kvs ps h l => by
    have ih := DenT.drop k l
    by_cases e : p.1 = k
    · have z1 : dropK (p :: kvs) k = dropK kvs k := List.filter_cons_of_neg (by simp [e])
      have z2 : dropD (q :: ps) (.tup (k.map keyD)) = dropD ps (.tup (k.map keyD)) := List.filter_cons_of_neg (by rw [h.1, keyOf_t, keyOf_t]; simp [e])
      rw [z1, z2]; exact ih
    · have z1 : dropK (p :: kvs) k = p :: dropK kvs k := List.filter_cons_of_pos (by simp [e])
      have z2 : dropD (q :: ps) (.tup (k.map keyD)) = q :: dropD ps (.tup (k.map keyD)) := List.filter_cons_of_pos (by rw [h.1, keyOf_t, keyOf_t]; simp [e])
      rw [z1, z2]; exact .cons h ih
end
end WL

/-! YB: d.pop(k) of a dict of one's own. -/
namespace WL
open PySem PySem.W PySem.Calls PyProof.Rows PyProof.V PySem.Spec L2
section
variable {prog : Program} {w : World} {K : Type} [DecidableEq K] {knd : HeapKind prog w K}
end
section
variable {X : Cx}
end
end WL

/-! YC: pop of a dict of one's own; dicts with tuple keys walked; containers of one's own seen as frozen for an expression. -/
namespace WL
open PySem PySem.Spec PyProof.Rows L2
section
variable {G : Glob} {X : Cx} {O : XO} {e f : Expr} {ca cb c : Bool} {na nb n : Nat} {fa fb fe : FE} {pos apos p : Pos} {x : Str} {k : Kd}
/-- d.pop(e), d a dict of slot i; it is not the last one, if it is a tuple -/
def fPopO (i : Nat) (fa : FE) : FE := fun ρ Kc => ownD ρ i fun _ => fa ρ fun ρ1 y => ownD ρ1 i fun ps => fits ps y = true ∧ ∃ d, lookD ps y = some d ∧ (isT y = true → dropD ps y ≠ []) ∧ Kc (ρ1.set i (some (.own (.dct (dropD ps y))))) d
/-! ### dicts with tuple keys, walked -/
def itTup (d : D) (P : List D → Prop) : Prop := match d with
  | .dct ps => (∀ p ∈ ps, isT p.1 = true) ∧ P (ps.map (·.1))
  | _ => False
end
end WL

/-! YD: containers of one's own, seen as frozen while an expression is evaluated. -/
namespace WL
open PySem PySem.Spec PyProof.Rows L2
mutual
/-- no list in it (l), no dict in it (t) -/
def sepD (l t : Bool) : D → Bool
  | .lst xs => !l && sepDs l t xs
  | .dct ps => !t && sepDp l t ps
  | .tup xs => sepDs l t xs
  | .wtp xs => sepDs l t xs
  | .wls xs => sepDs l t xs
  | .ins _ fs => sepDs l t fs
  | .exc _ fs => sepDs l t fs
  | _ => true
def sepDs (l t : Bool) : List D → Bool
  | [] => true
  | x :: xs => sepD l t x && sepDs l t xs
def sepDp (l t : Bool) : List (D × D) → Bool
  | [] => true
  | (_, y) :: ps => sepD l t y && sepDp l t ps
end
theorem sepDs_at {l t : Bool} : ∀ {xs : List D}, sepDs l t xs = true → ∀ (i : Nat) d, xs[i]? = some d → sepD l t d = true
  | [], _, i, d, e => by simp at e
  | x :: xs, h, i, d, e => by
    simp only [sepDs, Bool.and_eq_true] at h
    cases i with
    | zero => simp at e; subst e; exact h.1
    | succ i => exact sepDs_at h.2 i d (by simpa using e)
theorem sepDp_at {l t : Bool} : ∀ {ps : List (D × D)}, sepDp l t ps = true → ∀ (i : Nat) p, ps[i]? = some p → sepD l t p.2 = true
  | [], _, i, d, e => by simp at e
  | (a, y) :: xs, h, i, d, e => by
    simp only [sepDp, Bool.and_eq_true] at h
    cases i with
    | zero => simp at e; subst e; exact h.1
    | succ i => exact sepDp_at h.2 i d (by simpa using e)
/-- what is frozen for a while: what it is then, what it was -/
abbrev Frs := Addr → Option (HO × HO)
structure FrOk (G : Glob) (S : Fz) (H : Hp) (l t : Bool) (fr : Frs) : Prop where
  at_ : ∀ b u u0, fr b = some (u, u0) → H b = some u0 ∧ S b = none ∧ ¬ G.M b ∧ ((u = u0 ∧ (∃ xs, u0 = .lst xs) ∧ l = true) ∨ ((∃ od, u = .frz od u0) ∧ isDk u0 = true ∧ t = true))
def frH (fr : Frs) (H : Hp) : Hp := fun b => match fr b with | some (u, _) => some u | none => H b
def frS (fr : Frs) (S : Fz) : Fz := ⟨frH fr S.h, S.T⟩
def offS (fr : Frs) (S : Fz) : Fz := ⟨fun b => match fr b with | some _ => none | none => S b, S.T⟩
def offH (fr : Frs) (H H' : Hp) : Hp := fun b => match fr b with | some _ => H b | none => H' b
section
variable {G : Glob} {K : PySem.W.Frag} {O : XO} {B : Bs} {S S' : Fz} {H H' : Hp} {σ : L2.St} {ρ : EnvD} {l t : Bool} {fr : Frs}
theorem frH_n {H : Hp} {b : Addr} (h : fr b = none) : frH fr H b = H b := by unfold frH; rw [h]
theorem frH_s {H : Hp} {b : Addr} {u u0 : HO} (h : fr b = some (u, u0)) : frH fr H b = some u := by unfold frH; rw [h]
theorem offS_n {b : Addr} (h : fr b = none) : offS fr S b = S b := by show (match fr b with | some _ => none | none => S b) = _; rw [h]
theorem offS_s {b : Addr} {x} (h : fr b = some x) : offS fr S b = none := by show (match fr b with | some _ => none | none => S b) = _; rw [h]
theorem offH_n {b : Addr} (h : fr b = none) : offH fr H H' b = H' b := by unfold offH; rw [h]
theorem offH_s {b : Addr} {x} (h : fr b = some x) : offH fr H H' b = H b := by unfold offH; rw [h]
theorem FrOk.plain (F : FrOk G S H l t fr) {b : Addr} {u u0 : HO} (h : fr b = some (u, u0)) : isDk u = false ∧ isFz u = false ∧ (∀ p, u ≠ .ext p) ∧ (∀ xs, u ≠ .tup xs) := by
  obtain ⟨_, _, _, ⟨rfl, ⟨xs, rfl⟩, _⟩ | ⟨⟨od, rfl⟩, _⟩⟩ := F.at_ b u u0 h
  · exact ⟨rfl, rfl, (fun _ z => nomatch z), fun _ z => nomatch z⟩
  · exact ⟨rfl, rfl, (fun _ z => nomatch z), fun _ z => nomatch z⟩
theorem Sta.frzIn (I : Sta G K B S H) (F : FrOk G S H l t fr) : Sta G K (Bs.at (frH fr H) (frS fr S)) (frS fr S) (frH fr H) := by
  refine ⟨fun b o e => ?_, fun b m => ?_, G.jlaw S.T H _ I.j fun b o e z => ?_, fun _ z => z, fun _ z _ => .inl z, fun _ _ e _ _ => .inl e⟩
  · cases q : fr b with
    | none =>
      rw [frH_n q]
      exact I.le b o ((frH_n (H := S.h) q).symm.trans e)
    | some x => rw [frH_s q]; exact (frH_s (H := S.h) q).symm.trans e
  · cases q : fr b with
    | none => exact (frH_n (H := S.h) q).trans (I.sm b m)
    | some x => exact absurd m (F.at_ b _ _ q).2.2.1
  · cases q : fr b with
    | none => rw [frH_n q]; exact e
    | some x =>
      obtain ⟨u, u0⟩ := x
      obtain ⟨h1, _, h3, h4⟩ := F.at_ b _ _ q
      rcases z with z | ⟨p, rfl⟩
      · exact absurd z h3
      · rw [h1] at e; cases e
        rcases h4 with ⟨_, ⟨xs, z⟩, _⟩ | ⟨_, z, _⟩ <;> cases z
theorem frz_here {n : Nat} (F : FrOk G S H l t fr) (J : Sta G K (Bs.at (frH fr H) (frS fr S)) S' H') (m : Sub n (frS fr S) S') {b : Addr} {u u0 : HO} (h : fr b = some (u, u0)) : S' b = some u ∧ H' b = some u := by
  obtain ⟨p1, p2, _⟩ := F.plain h
  have := m.ot b u p1 p2 (frH_s (H := S.h) h)
  exact ⟨this, J.le _ _ this⟩
theorem Sta.frzOut {n : Nat} (I : Sta G K B S H) (F : FrOk G S H l t fr) (J : Sta G K (Bs.at (frH fr H) (frS fr S)) S' H') (m : Sub n (frS fr S) S') : Sta G K (Bs.at H S) (offS fr S') (offH fr H H') ∧ Sub n S (offS fr S') := by
  have here := fun {b u u0} h => frz_here F J m (b := b) (u := u) (u0 := u0) h
  have no : ∀ {b o}, S b = some o → fr b = none := fun {b o} e => by
    cases q : fr b with
    | none => rfl
    | some x => have := (F.at_ b _ _ q).2.1; rw [this] at e; cases e
  refine ⟨⟨fun b o e => ?_, fun b z => ?_, G.jlaw _ H' _ J.j fun b o e z => ?_, fun b z => ?_, fun b z nt => ?_, fun b o e mm nt => ?_⟩, ⟨fun b u hd r => ?_, fun b u h1 h2 e => ?_, m.lo⟩⟩
  · cases q : fr b with
    | none => rw [offH_n q]; rw [offS_n q] at e; exact J.le b o e
    | some x => rw [offS_s q] at e; cases e
  · cases q : fr b with
    | none => rw [offS_n q]; exact J.sm b z
    | some x => exact offS_s q
  · cases q : fr b with
    | none => rw [offH_n q]; exact e
    | some x =>
      obtain ⟨u, u0⟩ := x
      obtain ⟨h1, _, h3, _⟩ := F.at_ b _ _ q
      rcases z with z | ⟨p, rfl⟩
      · exact absurd z h3
      · have := (here q).2
        rw [e] at this; cases this
        exact absurd rfl ((F.plain q).2.2.1 p)
  · cases q : fr b with
    | none =>
      rw [offH_n q]
      have z : H b ≠ none := z
      exact J.dom b (by rw [show (Bs.at (frH fr H) (frS fr S)).H0 b = H b from frH_n q]; exact z)
    | some x => rw [offH_s q]; exact z
  · cases q : fr b with
    | none =>
      rw [offS_n q] at z
      rcases J.sn b z (fun xs y => nt xs ((offS_n q).trans y)) with y | y
      · exact .inl (by rw [show (Bs.at (frH fr H) (frS fr S)).S0 b = S b from frH_n q] at y; exact y)
      · exact .inr (by rw [show (Bs.at (frH fr H) (frS fr S)).H0 b = H b from frH_n q] at y; exact y)
    | some x => exact absurd (offS_s q) z
  · have e : H b = some o := e
    cases q : fr b with
    | none =>
      rw [offH_n q]
      have := J.kept b o ((frH_n q).trans e) mm nt
      rw [show (Bs.at (frH fr H) (frS fr S)).S0 b = S b from frH_n q] at this
      exact this
    | some x => rw [offH_s q, e]; exact .inl rfl
  · have q : fr b = none := by
      rcases r with r | ⟨o, r⟩ <;> exact no r
    have r2 : Rd (frS fr S) b u := by
      rcases r with r | ⟨o, r⟩
      · exact .inl ((frH_n (H := S.h) q).trans r)
      · exact .inr ⟨o, (frH_n (H := S.h) q).trans r⟩
    rcases m.dk b u hd r2 with r | ⟨o, r⟩
    · exact .inl ((offS_n q).trans r)
    · exact .inr ⟨o, (offS_n q).trans r⟩
  · have q := no e
    rw [offS_n q]
    exact m.ot b u h1 h2 ((frH_n (H := S.h) q).trans e)
/-- a datum that has no such container stands for itself without them -/
theorem den_off {n : Nat} (F : FrOk G S H l t fr) (J : Sta G K (Bs.at (frH fr H) (frS fr S)) S' H') (m : Sub n (frS fr S) S') {v : V} {d : D} (h : Den G K S' v d) : sepD l t d = true → Den G K (offS fr S') v d := by
  have here := fun {b u u0} h => frz_here F J m (b := b) (u := u) (u0 := u0) h
  have free : ∀ {b o}, S' b = some o → (∀ xs, o = .lst xs → l = false) → (∀ od u, o = .frz od u → isDk u = true → t = false) → offS fr S' b = some o := fun {b o} e hl ht => by
    cases q : fr b with
    | none => rw [offS_n q]; exact e
    | some x =>
      exfalso
      have h1 := (here q).1
      rw [e] at h1
      cases h1
      obtain ⟨_, _, _, ⟨z1, ⟨xs, z2⟩, z3⟩ | ⟨⟨od, z1⟩, z2, z3⟩⟩ := F.at_ b _ _ q
      · have := hl xs (z1.trans z2); rw [z3] at this; cases this
      · have := ht od _ z1 z2; rw [z3] at this; cases this
  induction h with
  | non => exact fun _ => .non
  | bl b => exact fun _ => .bl b
  | int i => exact fun _ => .int i
  | str x => exact fun _ => .str x
  | tup e le _ ih => exact fun s => .tup (free e (fun _ z => nomatch z) (fun _ _ z => nomatch z)) le fun i v d e1 e2 => ih i v d e1 e2 (sepDs_at s i d e2)
  | lst e le _ ih =>
    intro s
    simp only [sepD, Bool.and_eq_true] at s
    exact .lst (free e (fun _ _ => by simpa using s.1) (fun _ _ z => nomatch z)) le fun i v d e1 e2 => ih i v d e1 e2 (sepDs_at s.2 i d e2)
  | dK e le k _ ih =>
    intro s
    simp only [sepD, Bool.and_eq_true] at s
    refine .dK ?_ le k fun i v d e1 e2 => ih i v d e1 e2 (sepDp_at s.2 i d e2)
    rcases e with e | ⟨o, e⟩
    · exact .inl (free e (fun _ z => nomatch z) (fun _ _ z => nomatch z))
    · exact .inr ⟨o, free e (fun _ z => nomatch z) (fun _ _ _ _ => by simpa using s.1)⟩
  | dT e nn le k _ ih =>
    intro s
    simp only [sepD, Bool.and_eq_true] at s
    refine .dT ?_ nn le k fun i v d e1 e2 => ih i v d e1 e2 (sepDp_at s.2 i d e2)
    rcases e with e | ⟨o, e⟩
    · exact .inl (free e (fun _ z => nomatch z) (fun _ _ z => nomatch z))
    · exact .inr ⟨o, free e (fun _ z => nomatch z) (fun _ _ _ _ => by simpa using s.1)⟩
  | ins e c n le _ ih => exact fun s => .ins (free e (fun _ z => nomatch z) (fun _ _ z => nomatch z)) c n le fun i v d e1 e2 => ih i v d e1 e2 (sepDs_at s i d e2)
  | cls h => exact fun _ => .cls h
  | tok h => exact fun _ => .tok h
  | fn e g => exact fun _ => .fn (free e (fun _ z => nomatch z) (fun _ _ z => nomatch z)) (free g (fun _ z => nomatch z) (fun _ _ z => nomatch z))
  | wtp e le _ ih => exact fun s => .wtp e le fun i v d e1 e2 => ih i v d e1 e2 (sepDs_at s i d e2)
  | wls e le _ ih => exact fun s => .wls (e.imp_left fun ⟨o, e⟩ => ⟨o, free e (fun _ z => nomatch z) (fun _ _ z y => by cases z; cases y)⟩) le fun i v d e1 e2 => ih i v d e1 e2 (sepDs_at s i d e2)
  | exc0 h e => exact fun _ => .exc0 h (free e (fun _ z => nomatch z) (fun _ _ z => nomatch z))
  | excR0 h e => exact fun _ => .excR0 h (free e (fun _ z => nomatch z) (fun _ _ z => nomatch z))
  | excR1 h e g _ ih =>
    intro s
    simp only [sepD, sepDs, Bool.and_true] at s
    exact .excR1 h (free e (fun _ z => nomatch z) (fun _ _ z => nomatch z)) (free g (fun _ z => nomatch z) (fun _ _ z => nomatch z)) (ih s)
  | exc1 h e g _ ih =>
    intro s
    simp only [sepD, sepDs, Bool.and_true] at s
    exact .exc1 h (free e (fun _ z => nomatch z) (fun _ _ z => nomatch z)) (free g (fun _ z => nomatch z) (fun _ _ z => nomatch z)) (ih s)
end
/-- an environment in which the containers of some slots are frozen, all others forgotten -/
def frzE (is : List Nat) (ρ : EnvD) : EnvD := ρ.zipIdx.map fun p => match p.1 with
  | some (.imm d) => some (.imm d)
  | some (.own o) => if is.contains p.2 && o.con then some (.imm o.d) else none
  | none => none
theorem frzE_len (is : List Nat) (ρ : EnvD) : (frzE is ρ).length = ρ.length := by unfold frzE; rw [List.length_map, List.length_zipIdx]
theorem frzE_at {is : List Nat} {ρ : EnvD} {i : Nat} {s : Slot} (h : (frzE is ρ)[i]? = some (some s)) : ∃ d, s = .imm d ∧ (ρ[i]? = some (some (.imm d)) ∨ ∃ o, ρ[i]? = some (some (.own o)) ∧ i ∈ is ∧ o.con = true ∧ d = o.d) := by
  unfold frzE at h
  rw [List.getElem?_map, List.getElem?_zipIdx] at h
  cases e : ρ[i]? with
  | none => rw [e] at h; simp at h
  | some x =>
    rw [e] at h
    simp only [Option.map_some, Nat.zero_add, Option.some.injEq] at h
    cases x with
    | none => cases h
    | some y =>
      cases y with
      | imm d => cases h; exact ⟨d, rfl, .inl rfl⟩
      | own o =>
        by_cases c : (is.contains i && o.con) = true
        · have h : (if (is.contains i && o.con) = true then some (Slot.imm o.d) else none) = some s := h
          rw [if_pos c] at h
          cases h
          simp only [Bool.and_eq_true, List.contains_iff_mem] at c
          exact ⟨_, rfl, .inr ⟨o, rfl, c.1, c.2, rfl⟩⟩
        · have h : (if (is.contains i && o.con) = true then some (Slot.imm o.d) else none) = some s := h
          rw [if_neg c] at h; cases h
def ownLs (ρ : EnvD) (is : List Nat) : Bool := is.any fun i => match ρ[i]? with | some (some (.own (.lst _))) => true | _ => false
def ownDs (ρ : EnvD) (is : List Nat) : Bool := is.any fun i => match ρ[i]? with | some (some (.own (.dct _))) => true | _ => false
def sepK (l t : Bool) (k : Kd) (d : D) : Prop := match k with
  | .fr => match d with
    | .lst xs => sepDs l t xs = true
    | .dct ps => sepDp l t ps = true
    | _ => False
  | _ => sepD l t d = true
def fFrz (is : List Nat) (k : Kd) (f : FE) : FE := fun ρ Kc => f (frzE is ρ) fun _ d => sepK (ownLs ρ is) (ownDs ρ is) k d ∧ Kc ρ d
def tLs : Nat → TE → TE
  | 0, t => t
  | n + 1, t => fun σ H Q => tLs n t σ H Q ∨ tLockE (tLs n t) σ H Q
theorem pe_locks {X : Cx} {e : Expr} {t : TE} (h : PE X e t) : ∀ n, PE X e (tLs n t)
  | 0 => h
  | n + 1 => ⟨fun pins s σ H Q I q => q.elim ((pe_locks h n).run pins s σ H Q I) ((pe_lock (pe_locks h n)).run pins s σ H Q I)⟩
/-- the containers of the slots, one after the other -/
theorem frz_run {G : Glob} {K : PySem.W.Frag} {O : XO} {B : Bs} {S : Fz} {H : Hp} {σ : L2.St} {ρ : EnvD} {te : TE} (I : Eok G K O B S H σ ρ) (all : List Nat) {Q : VK} :
    ∀ (is : List Nat) (fr : Frs) (R : VK), (∀ v H', (∀ b u u0, fr b = some (u, u0) → H' b = some u) → Q v (offH fr H H') → R v H') → (∀ i ∈ is, i ∈ all) → FrOk G S H (ownLs ρ all) (ownDs ρ all) fr → (∀ b x, fr b = some x → ∃ i o, i ∈ all ∧ i ∉ is ∧ Owns σ ρ i b o) → is.Nodup →
      (∀ i ∈ all, i ∉ is → ∀ a o, Owns σ ρ i a o → o.con = true → ∃ x, fr a = some x) →
      (∀ fr' R', (∀ v H', (∀ b u u0, fr' b = some (u, u0) → H' b = some u) → Q v (offH fr' H H') → R' v H') → FrOk G S H (ownLs ρ all) (ownDs ρ all) fr' → (∀ b x, fr' b = some x → ∃ i o, i ∈ all ∧ Owns σ ρ i b o) → (∀ i ∈ all, ∀ a o, Owns σ ρ i a o → o.con = true → ∃ x, fr' a = some x) →
        te σ (frH fr' H) R') →
      tLs is.length te σ (frH fr H) R
  | [], fr, R, hR, _, F, hb, _, hall, fin => fin fr R hR F (fun b x e => let ⟨i, o, h1, _, h2⟩ := hb b x e; ⟨i, o, h1, h2⟩) fun i hi a o w => hall i hi (by simp) a o w
  | i :: is, fr, R, hR, hs, F, hb, hn, hall, fin => by
    have hn2 := List.nodup_cons.mp hn
    by_cases hw : ∃ a o, Owns σ ρ i a o ∧ o.con = true
    · obtain ⟨a, o, w, hc⟩ := hw
      have w1 := Owns.at I w
      have fa : fr a = none := by
        cases q : fr a with
        | none => rfl
        | some x =>
          obtain ⟨j, o', _, hj, w'⟩ := hb a x q
          have := I.ap _ _ _ _ _ w w'
          subst this
          exact absurd (.head _) hj
      -- one more is frozen
      have more : ∀ u u0 (R2 : VK), H a = some u0 → ((u = u0 ∧ (∃ xs, u0 = .lst xs) ∧ ownLs ρ all = true) ∨ ((∃ od, u = .frz od u0) ∧ isDk u0 = true ∧ ownDs ρ all = true)) →
          (∀ v H', H' a = some u → (∀ b u u0, fr b = some (u, u0) → H' b = some u) → Q v (offH fr H (upd H' a u0)) → R2 v H') →
          tLs is.length te σ (upd (frH fr H) a u) R2 := fun u u0 R2 ha hu hR2 => by
        let fr2 : Frs := fun b => if b = a then some (u, u0) else fr b
        have f2a : fr2 a = some (u, u0) := if_pos rfl
        have f2 : ∀ {b}, b ≠ a → fr2 b = fr b := fun h => if_neg h
        have eH : upd (frH fr H) a u = frH fr2 H := by
          funext b
          by_cases h : b = a
          · subst h; rw [upd_same, frH_s f2a]
          · rw [upd_ne h]; unfold frH; rw [f2 h]
        have nfa : ∀ {b x}, fr b = some x → b ≠ a := fun {b x} e z => by rw [z, fa] at e; cases e
        have eo : ∀ H' : Hp, offH fr2 H H' = offH fr H (upd H' a u0) := fun H' => by
          funext b
          by_cases h : b = a
          · subst h; rw [offH_s f2a, offH_n fa, upd_same, ha]
          · cases q : fr b with
            | none => rw [offH_n q, upd_ne h, offH_n ((f2 h).trans q)]
            | some x => rw [offH_s q, offH_s ((f2 h).trans q)]
        rw [eH]
        refine frz_run (te := te) (Q := Q) I all is fr2 R2 (fun v H' z1 z2 => hR2 v H' (z1 a u u0 f2a) (fun b u' u0' e => z1 b u' u0' ((f2 (nfa e)).trans e)) (by rw [← eo]; exact z2)) (fun j hj => hs j (.tail _ hj)) ⟨fun b u' u0' e => by
            by_cases h : b = a
            · subst h; rw [f2a] at e; cases e; exact ⟨ha, w1.s, w1.m, hu⟩
            · rw [f2 h] at e; exact F.at_ b u' u0' e⟩ (fun b x e => by
            by_cases h : b = a
            · subst h; exact ⟨i, o, hs i (.head _), hn2.1, w⟩
            · rw [f2 h] at e
              obtain ⟨j, o', h1, h2, h3⟩ := hb b x e
              exact ⟨j, o', h1, fun z => h2 (.tail _ z), h3⟩) hn2.2 (fun j hj hnj b o' w' hc' => by
            by_cases h : j = i
            · subst h
              have := w.2.symm.trans w'.2
              cases this
              exact ⟨_, f2a⟩
            · obtain ⟨x, e⟩ := hall j hj (fun z => (List.mem_cons.mp z).elim h hnj) b o' w' hc'
              exact ⟨x, (f2 (nfa e)).trans e⟩) fin
      have hi : i ∈ all := hs i (.head _)
      cases o with
      | ins c fs => cases hc
      | lst xs =>
        obtain ⟨vs, hv, _⟩ := w1.at_
        have ol : ownLs ρ all = true := List.any_eq_true.mpr ⟨i, hi, by rw [w.1]⟩
        have := more (.lst vs) (.lst vs) R hv (.inl ⟨rfl, ⟨_, rfl⟩, ol⟩) fun v H' z1 z2 z3 => hR v H' z2 (by
          have e3 : upd H' a (.lst vs) = H' := by
            funext b
            by_cases h : b = a
            · subst h; rw [upd_same, z1]
            · rw [upd_ne h]
          rw [e3] at z3; exact z3)
        have eu : upd (frH fr H) a (.lst vs) = frH fr H := by
          funext b
          by_cases h : b = a
          · subst h; rw [upd_same, frH_n fa, hv]
          · rw [upd_ne h]
        rw [eu] at this
        exact .inl this
      | dct ps =>
        have ot : ownDs ρ all = true := List.any_eq_true.mpr ⟨i, hi, by rw [w.1]⟩
        have : ∃ u0, H a = some u0 ∧ isDk u0 = true ∧ Mut (some u0) := by
          rcases w1.at_ with ⟨kvs, h, _⟩ | ⟨kvs, h, _⟩
          · exact ⟨_, h, rfl, trivial⟩
          · exact ⟨_, h, rfl, trivial⟩
        obtain ⟨u0, hu, hk, hm⟩ := this
        refine .inr ⟨a, u0, (frH_n fa).trans hu, hm, fun od => ?_⟩
        exact more (.frz od u0) u0 _ hu (.inr ⟨⟨od, rfl⟩, hk, ot⟩) fun v H' z1 z2 z3 => ⟨z1, hR v _ (fun b u' u0' e => by rw [upd_ne fun z => by rw [z, fa] at e; cases e]; exact z2 b u' u0' e) z3⟩
    · refine .inl (frz_run (te := te) (Q := Q) I all is fr R hR (fun j hj => hs j (.tail _ hj)) F (fun b x e => ?_) hn2.2 (fun j hj hnj b o' w' hc' => ?_) fin)
      · obtain ⟨j, o', h1, h2, h3⟩ := hb b x e
        exact ⟨j, o', h1, fun z => h2 (.tail _ z), h3⟩
      · by_cases h : j = i
        · subst h; exact absurd ⟨b, o', w', hc'⟩ hw
        · exact hall j hj (fun z => (List.mem_cons.mp z).elim h hnj) b o' w' hc'
section
variable {G : Glob} {X : Cx} {O : XO} {e : Expr} {k : Kd} {c : Bool} {n : Nat} {f : FE}
theorem frzE_imm {is : List Nat} {K : PySem.W.Frag} {B : Bs} {S : Fz} {H : Hp} {σ : L2.St} {ρ : EnvD} {fr : Frs} (I : Eok G K O B S H σ ρ) (F : FrOk G S H (ownLs ρ is) (ownDs ρ is) fr) (hf : ∀ i ∈ is, ∀ a o, Owns σ ρ i a o → o.con = true → ∃ x, fr a = some x) (ha : ∀ b x, fr b = some x → ∃ i o, i ∈ is ∧ Owns σ ρ i b o) :
    Eok G K O.none (Bs.at (frH fr H) (frS fr S)) (frS fr S) (frH fr H) σ (frzE is ρ) := by
  have sub : Sub 0 S (frS fr S) := by
    have no : ∀ {b o}, S b = some o → fr b = none := fun {b o} e => by
      cases q : fr b with
      | none => rfl
      | some x => have := (F.at_ b _ _ q).2.1; rw [this] at e; cases e
    exact Sub.of (fun b o e => (frH_n (H := S.h) (no e)).trans e) (Nat.le_refl _)
  have noO : ∀ {i : Nat} {o : Own}, (frzE is ρ)[i]? = some (some (Slot.own o)) → False := fun {i o} e => by
    obtain ⟨d, z, _⟩ := frzE_at e
    cases z
  refine ⟨I.toSta.frzIn F, .inr fun _ z => z, fun _ _ _ _ _ _ _ _ _ _ _ _ z => z.elim, fun i d e => ?_, fun i o e => (noO e).elim, fun i j a o o' w _ => (noO w.1).elim, fun j a o e => by simp at e, fun i j a o o' w _ => (noO w.1).elim, fun i j a o o' e _ => by simp at e, by rw [frzE_len]; exact I.len, fun i c fs e => (noO e).elim, fun _ z => nomatch z⟩
  obtain ⟨d', z, h⟩ := frzE_at e
  cases z
  rcases h with h | ⟨o, h, hi, hc, rfl⟩
  · obtain ⟨v, e1, e2⟩ := I.im i d h; exact ⟨v, e1, e2.mono sub⟩
  · obtain ⟨a, e1, w⟩ := I.ow i o h
    obtain ⟨⟨u, u0⟩, ef⟩ := hf i hi a o ⟨h, e1⟩ hc
    refine ⟨.ref a, e1, ?_⟩
    obtain ⟨h1, h2, h3, h4⟩ := F.at_ a u u0 ef
    have hs : (frS fr S) a = some u := frH_s (H := S.h) ef
    cases o with
    | ins c fs => cases hc
    | lst xs =>
      obtain ⟨vs, hv, l⟩ := w.at_
      rw [h1] at hv; cases hv
      rcases h4 with ⟨rfl, _⟩ | ⟨_, z, _⟩
      · exact den_lst hs (DenL.mono sub l)
      · cases z
    | dct ps =>
      rcases w.at_ with ⟨kvs, hv, l⟩ | ⟨kvs, hv, nn, l⟩
      · rw [h1] at hv; cases hv
        rcases h4 with ⟨rfl, ⟨_, z⟩, _⟩ | ⟨⟨od, rfl⟩, _⟩
        · cases z
        · exact den_dK (.inr ⟨od, hs⟩) (DenK.mono sub l)
      · rw [h1] at hv; cases hv
        rcases h4 with ⟨rfl, ⟨_, z⟩, _⟩ | ⟨⟨od, rfl⟩, _⟩
        · cases z
        · exact den_dT (.inr ⟨od, hs⟩) nn (DenT.mono sub l)
theorem frz_fin {K : PySem.W.Frag} {B : Bs} {S : Fz} {H : Hp} {σ : L2.St} {ρ : EnvD} {is : List Nat} {fr : Frs} {O' : XO} {S' : Fz} {H' : Hp} {ρ' : EnvD} {v : V} {d : D} (I : Eok G K O B S H σ ρ) (F : FrOk G S H (ownLs ρ is) (ownDs ρ is) fr) (J : Eok G K O' (Bs.at (frH fr H) (frS fr S)) S' H' σ ρ') (m : Sub n (frS fr S) S') (hk : k = .st ∨ k = .fr)
    (r : ROk G K (Bs.at (frH fr H) (frS fr S)) S' H' σ ρ' v d k) (hs : sepK (ownLs ρ is) (ownDs ρ is) k d) : ROk G K B (offS fr S') (offH fr H H') σ ρ v d k := by
  rcases hk with rfl | rfl
  · exact den_off F J.toSta m r hs
  · obtain ⟨a, o, rfl, rfl, w, hc, nb⟩ := r
    have ha0 : frH fr H a = none := w.h0
    have fa : fr a = none := by
      cases e : fr a with
      | none => rfl
      | some x => rw [frH_s (u := x.1) (u0 := x.2) e] at ha0; cases ha0
    have hH : H a = none := (frH_n fa).symm.trans ha0
    have hB : B.H0 a = none := by
      cases e : B.H0 a with
      | none => rfl
      | some o => exact absurd hH (I.dom a (by rw [e]; exact fun z => nomatch z))
    have hat : (offH fr H H') a = H' a := offH_n fa
    refine ⟨a, o, rfl, rfl, ⟨(offS_n fa).trans w.s, w.m, hB, ?_⟩, hc, I.nob hH⟩
    cases o with
    | ins c fs => cases hc
    | lst xs =>
      obtain ⟨vs, hv, l⟩ := w.at_
      refine ⟨vs, hat.trans hv, paired_of l.length fun i v d e1 e2 => den_off F J.toSta m (paired_at l i v d e1 e2) (sepDs_at hs i d e2)⟩
    | dct ps =>
      rcases w.at_ with ⟨kvs, hv, l⟩ | ⟨kvs, hv, nn, l⟩
      · exact .inl ⟨kvs, hat.trans hv, paired_of l.length fun i v d e1 e2 => let z := paired_at l i v d e1 e2; ⟨z.1, den_off F J.toSta m z.2 (sepDp_at hs i d e2)⟩⟩
      · exact .inr ⟨kvs, hat.trans hv, nn, paired_of l.length fun i v d e1 e2 => let z := paired_at l i v d e1 e2; ⟨z.1, den_off F J.toSta m z.2 (sepDp_at hs i d e2)⟩⟩
theorem e_frz (is : List Nat) (h : PDe G X O.none e k c n f) (hk : k = .st ∨ k = .fr := by first | exact .inl rfl | exact .inr rfl) (hn : is.Nodup := by decide) (hx0 : n = 0 ∨ ∀ x, ¬ O.xd x := by first | exact .inl rfl | exact .inr fun _ z => z) : PDe G X O e k true n (fFrz is k f) := by
  obtain ⟨t, p, q⟩ := h.run
  refine ⟨_, pe_locks p is.length, fun B S H σ ρ Kc Q I hb hf hq => ?_⟩
  refine frz_run (te := t) (Q := Q) I is is (fun _ => none) Q (fun v H' _ z => z) (fun _ h => h) ⟨fun b u u0 e => by cases e⟩ (fun b x e => by cases e) hn (fun i hi hni => absurd hi hni) (fun fr R hR F ha hall => ?_)
  refine q _ _ _ σ (frzE is ρ) _ R (frzE_imm I F hall ha) hb hf fun v H' S' ρ' d J m c' r ⟨hs, hk2⟩ => ?_
  obtain ⟨J2, m2⟩ := I.toSta.frzOut F J.toSta m
  exact hR v H' (fun b u u0 e => (frz_here F J.toSta m e).2) (hq v _ _ ρ d (I.call J2 hx0 m2) m2 (fun _ => rfl) (frz_fin I F J m hk r hs) hk2)
end
/-! ### x = a comprehension -/
structure PDx (G : Glob) (X : Cx) (O : XO) (st : Stmt) (i n : Nat) (f : FE) : Prop where
  run : ∃ te : TE, PS X st (tAsg te (gName i)) ∧ ∀ (B : Bs) (S : Fz) (H : Hp) (σ : L2.St) (ρ : EnvD) (Kc : EnvD → D → Prop) (Q : VK), Eok G X.K O B S H σ ρ → S.T + n ≤ limT → f ρ Kc →
    (∀ v H' S' ρ' d, Eok G X.K O B S' H' σ ρ' → Sub n S S' → ROk G X.K B S' H' σ ρ' v d .fr → Kc ρ' d → Q v H') → te σ H Q
section
variable {G : Glob} {X : Cx} {O : XO} {rk : Bool} {ni nt ne n : Nat} {h : FG} {tg elt iter : Expr} {y : Str} {py spos : Pos} {st : Stmt} {f : FE} {fi : FI} {ft : FT} {fe fk fv : FE}
end
end WL

/-! YE: d[k], y = e; small things. -/
namespace WL
open PySem PySem.Spec PyProof.Rows L2
section
variable {G : Glob} {X : Cx} {O : XO} {rk : Bool} {e ky : Expr} {c ca cb : Bool} {n na nb : Nat} {f fa fb : FE} {x y : Str} {pos np p1 p2 p3 : Pos} {kk : Nat}
def fUnpS (i j : Nat) (f fy : FE) : FS := fun Ed ρ => f ρ fun ρ1 d => match d with
  | .tup [v, w] => ownD ρ1 i fun _ => fy ρ1 fun ρ2 k => ownD ρ2 i fun ps => (fitsP ps k = true ∧ ps.length < sizeLine) ∧ Ed.nx ((ρ2.set i (some (.own (.dct (putD ps k v))))).set j (some (.imm w)))
  | _ => False
end
section
variable {G : Glob} {P : Program} {w : World} {K : PySem.W.Frag} {mg : Str → Option Value} {base : Heap} {x qual : Str} {params : Arguments} {body : List Stmt} {scope : Scope} {f : Addr} {fd : FuncData} {ps : List Str} {k : Nat} {m : Spc}
end
end WL

/-! M1: closed sets of a weighted order, transports, the greatest best closed set. Plain Lean. -/
namespace FL
variable {α : Type} [DecidableEq α]
/-- the sum of v over the members of L that are in S -/
def sm : List α → (α → Bool) → (α → Int) → Int
  | [], _, _ => 0
  | x :: L, S, v => (if S x = true then v x else 0) + sm L S v
theorem sm_congr {L : List α} {S T : α → Bool} {v w : α → Int} (h : ∀ x ∈ L, S x = T x ∧ (S x = true → v x = w x)) : sm L S v = sm L T w := by
  induction L with
  | nil => rfl
  | cons x L ih =>
    have h1 := h x (.head _)
    simp only [sm, ih fun y hy => h y (.tail _ hy), ← h1.1]
    by_cases e : S x = true
    · rw [if_pos e, if_pos e, h1.2 e]
    · rw [if_neg e, if_neg e]
theorem sm_le {L : List α} {S : α → Bool} {v w : α → Int} (h : ∀ x ∈ L, S x = true → v x ≤ w x) : sm L S v ≤ sm L S w := by
  induction L with
  | nil => exact Int.le_refl _
  | cons x L ih =>
    have h2 := ih fun y hy => h y (.tail _ hy)
    simp only [sm]
    by_cases e : S x = true
    · have := h x (.head _) e
      rw [if_pos e, if_pos e]; omega
    · rw [if_neg e, if_neg e]; omega
theorem sm_zero (L : List α) (S : α → Bool) : sm L S (fun _ => 0) = 0 := by
  induction L with
  | nil => rfl
  | cons x L ih => simp only [sm, ih]; split <;> rfl
theorem sm_nn {L : List α} {S : α → Bool} {v : α → Int} (h : ∀ x ∈ L, S x = true → 0 ≤ v x) : 0 ≤ sm L S v := by
  have := sm_le (L := L) (S := S) (v := fun _ => 0) (w := v) h
  rw [sm_zero] at this; exact this
theorem sm_sub (L : List α) (S : α → Bool) (v w : α → Int) : sm L S (fun x => v x - w x) = sm L S v - sm L S w := by
  induction L with
  | nil => rfl
  | cons x L ih => simp only [sm, ih]; split <;> omega
theorem sm_mul (L : List α) (S : α → Bool) (v : α → Int) (k : Int) : sm L S (fun x => v x * k) = sm L S v * k := by
  induction L with
  | nil => simp [sm]
  | cons x L ih =>
    simp only [sm, ih, Int.add_mul]
    split
    · rfl
    · simp
theorem sm_or (L : List α) (S T : α → Bool) (v : α → Int) : sm L (fun x => S x || T x) v + sm L (fun x => S x && T x) v = sm L S v + sm L T v := by
  induction L with
  | nil => rfl
  | cons x L ih =>
    simp only [sm]
    by_cases hs : S x = true <;> by_cases ht : T x = true <;> simp [hs, ht] <;> omega
theorem sm_diff (L : List α) (S T : α → Bool) (v : α → Int) : sm L S v = sm L (fun x => S x && T x) v + sm L (fun x => S x && !T x) v := by
  induction L with
  | nil => rfl
  | cons x L ih =>
    simp only [sm]
    by_cases hs : S x = true <;> by_cases ht : T x = true <;> simp [hs, ht] <;> omega
theorem sm_none {L : List α} {S : α → Bool} (v : α → Int) (h : ∀ x ∈ L, S x = false) : sm L S v = 0 := by
  induction L with
  | nil => rfl
  | cons x L ih => simp only [sm, ih fun y hy => h y (.tail _ hy), h x (.head _)]; rfl
theorem sm_pos {L : List α} {S : α → Bool} {v : α → Int} (h0 : ∀ x ∈ L, S x = true → 0 < v x) {x : α} (hx : x ∈ L) (hs : S x = true) : 0 < sm L S v := by
  induction L with
  | nil => cases hx
  | cons y L ih =>
    have hr := sm_nn (L := L) (S := S) (v := v) fun z hz h => Int.le_of_lt (h0 z (.tail _ hz) h)
    simp only [sm]
    rcases List.mem_cons.mp hx with e | hx
    · subst e
      have := h0 x (.head _) hs
      rw [if_pos hs]; omega
    · have := ih (fun z hz => h0 z (.tail _ hz)) hx
      split
      · rename_i h
        have := h0 y (.head _) h
        omega
      · omega
theorem sm_filter (L : List α) (S : α → Bool) (v : α → Int) : sm L S v = ((L.filter S).map v).sum := by
  induction L with
  | nil => rfl
  | cons x L ih =>
    simp only [sm, ih]
    by_cases e : S x = true
    · rw [if_pos e, List.filter_cons_of_pos e, List.map_cons, List.sum_cons]
    · rw [if_neg e, List.filter_cons_of_neg e]; omega
/-- S has, with each of its members, what that rests on (among L) -/
def Cl (L : List α) (R : α → α → Bool) (S : α → Bool) : Prop := ∀ x ∈ L, S x = true → ∀ y ∈ L, R x y = true → S y = true
theorem Cl.or {L : List α} {R : α → α → Bool} {S T : α → Bool} (h : Cl L R S) (g : Cl L R T) : Cl L R fun x => S x || T x := fun x hx hs y hy hr => by
  rcases Bool.or_eq_true _ _ ▸ hs with e | e
  · simp [h x hx e y hy hr]
  · simp [g x hx e y hy hr]
theorem Cl.and {L : List α} {R : α → α → Bool} {S T : α → Bool} (h : Cl L R S) (g : Cl L R T) : Cl L R fun x => S x && T x := fun x hx hs y hy hr => by
  have e := Bool.and_eq_true _ _ ▸ hs
  simp [h x hx e.1 y hy hr, g x hx e.2 y hy hr]
/-- the greatest one of the best closed sets -/
structure Best (L : List α) (R : α → α → Bool) (v : α → Int) (U : α → Bool) : Prop where
  cl : Cl L R U
  top : ∀ S, Cl L R S → sm L S v ≤ sm L U v
  sup : ∀ S, Cl L R S → sm L S v = sm L U v → ∀ x ∈ L, S x = true → U x = true
theorem Best.uniq {L : List α} {R : α → α → Bool} {v : α → Int} {U V : α → Bool} (h : Best L R v U) (g : Best L R v V) : ∀ x ∈ L, U x = V x := fun x hx => by
  have e : sm L U v = sm L V v := Int.le_antisymm (g.top U h.cl) (h.top V g.cl)
  rw [Bool.eq_iff_iff]
  exact ⟨g.sup U h.cl e x hx, h.sup V g.cl e.symm x hx⟩

/-- a transport: pairs and what is sent -/
abbrev Tr (α : Type) := List ((α × α) × Int)
/-- what is left over -/
def over (v : α → Int) : Tr α → α → Int
  | [], z => v z
  | (p, a) :: F, z => over v F z - (if z = p.1 then a else 0) + (if z = p.2 then a else 0)
/-- what holds of a transport while it grows -/
structure TrOk (L : List α) (R : α → α → Bool) (v : α → Int) (F : Tr α) : Prop where
  ends : ∀ p ∈ F, p.1.1 ∈ L ∧ p.1.2 ∈ L ∧ R p.1.1 p.1.2 = true ∧ 0 < v p.1.1 ∧ v p.1.2 < 0 ∧ 0 < p.2
  hi : ∀ x ∈ L, 0 < v x → 0 ≤ over v F x
  lo : ∀ x ∈ L, v x ≤ 0 → over v F x ≤ 0
/-- there is no road: V is what is met -/
structure NoRoad (L : List α) (R : α → α → Bool) (v : α → Int) (F : Tr α) (V : α → Bool) : Prop where
  beg : ∀ x ∈ L, 0 < over v F x → V x = true
  end_ : ∀ x ∈ L, V x = true → 0 ≤ over v F x
  fw : ∀ x ∈ L, V x = true → 0 < v x → ∀ y ∈ L, R x y = true → v y < 0 → V y = true
  bw : ∀ x ∈ L, V x = true → v x ≤ 0 → ∀ y ∈ L, (∃ a, ((y, x), a) ∈ F) → V y = true
/-- what reaches something that is lacking -/
inductive Out (L : List α) (R : α → α → Bool) (v : α → Int) (F : Tr α) : α → Prop
  | base {x : α} : x ∈ L → over v F x < 0 → Out L R v F x
  | rest {x y : α} : x ∈ L → R x y = true → Out L R v F y → Out L R v F x
  | give {x y : α} : x ∈ L → (∃ a, ((y, x), a) ∈ F) → Out L R v F y → Out L R v F x
theorem Out.mem {L : List α} {R : α → α → Bool} {v : α → Int} {F : Tr α} {x : α} (h : Out L R v F x) : x ∈ L := by cases h <;> assumption
end FL

/-! M2: prices, densest closed sets. -/
namespace FL
variable {α : Type} [DecidableEq α]
/-- the value at the price t / b -/
def vat (w e : α → Int) (t b : Int) : α → Int := fun x => w x * b - e x * t
theorem sm_vat (L : List α) (S : α → Bool) (w e : α → Int) (t b : Int) : sm L S (vat w e t b) = sm L S w * b - sm L S e * t := by
  unfold vat; rw [sm_sub, sm_mul, sm_mul]
/-- best sets shrink while the price grows -/
theorem best_mono {L : List α} {R : α → α → Bool} {w e : α → Int} {t1 b1 t2 b2 : Int} {U1 U2 : α → Bool} (he : ∀ x ∈ L, 0 ≤ e x) (h1 : 0 < b1) (h2 : 0 < b2) (hp : t1 * b2 ≤ t2 * b1)
    (B1 : Best L R (vat w e t1 b1) U1) (B2 : Best L R (vat w e t2 b2) U2) : ∀ x ∈ L, U2 x = true → U1 x = true := by
  have hor := B1.cl.or B2.cl
  have hand := B1.cl.and B2.cl
  have d2 := sm_diff L U2 U1 (vat w e t2 b2)
  have i2 := B2.top _ hand
  have c2 : sm L (fun x => U2 x && U1 x) (vat w e t2 b2) = sm L (fun x => U1 x && U2 x) (vat w e t2 b2) := sm_congr fun x _ => ⟨Bool.and_comm _ _, fun _ => rfl⟩
  have n2 : 0 ≤ sm L (fun x => U2 x && !U1 x) (vat w e t2 b2) := by omega
  have n1 : 0 ≤ sm L (fun x => U2 x && !U1 x) (vat w e t1 b1) := by
    rw [sm_vat] at n2 ⊢
    have hE : 0 ≤ sm L (fun x => U2 x && !U1 x) e := sm_nn fun x hx _ => he x hx
    generalize sm L (fun x => U2 x && !U1 x) e = E at *
    generalize sm L (fun x => U2 x && !U1 x) w = W at *
    have a1 : E * (t1 * b2) ≤ E * (t2 * b1) := Int.mul_le_mul_of_nonneg_left hp hE
    have a2 : 0 ≤ (W * b2 - E * t2) * b1 := Int.mul_nonneg n2 (by omega)
    have a3 : 0 ≤ (W * b1 - E * t1) * b2 := by
      have e1 : (W * b2 - E * t2) * b1 = W * b1 * b2 - E * (t2 * b1) := by
        rw [Int.sub_mul]; simp only [Int.mul_assoc, Int.mul_comm, Int.mul_left_comm]
      have e2 : (W * b1 - E * t1) * b2 = W * b1 * b2 - E * (t1 * b2) := by
        rw [Int.sub_mul]; simp only [Int.mul_assoc, Int.mul_comm, Int.mul_left_comm]
      rw [e1] at a2
      rw [e2]
      omega
    exact Int.le_of_mul_le_mul_right (by rw [Int.zero_mul]; exact a3) h2
  have o1 := sm_or L U1 U2 (vat w e t1 b1)
  have d1 := sm_diff L U2 U1 (vat w e t1 b1)
  have c1 : sm L (fun x => U2 x && U1 x) (vat w e t1 b1) = sm L (fun x => U1 x && U2 x) (vat w e t1 b1) := sm_congr fun x _ => ⟨Bool.and_comm _ _, fun _ => rfl⟩
  have t := B1.top _ hor
  intro x hx hs
  exact B1.sup _ hor (by omega) x hx (by simp [hs])
/-- the greatest densest closed set -/
structure Dens (L : List α) (R : α → α → Bool) (w e : α → Int) (D : α → Bool) : Prop where
  cl : Cl L R D
  ne : ∃ x ∈ L, D x = true
  top : ∀ S, Cl L R S → sm L S w * sm L D e ≤ sm L D w * sm L S e
  sup : ∀ S, Cl L R S → sm L S w * sm L D e = sm L D w * sm L S e → ∀ x ∈ L, S x = true → D x = true
theorem dens_iff {L : List α} {R : α → α → Bool} {w e : α → Int} {D : α → Bool} : Dens L R w e D ↔ (∃ x ∈ L, D x = true) ∧ Best L R (vat w e (sm L D w) (sm L D e)) D := by
  have z : sm L D (vat w e (sm L D w) (sm L D e)) = 0 := by rw [sm_vat, Int.mul_comm (sm L D e)]; omega
  have c : ∀ S : α → Bool, sm L S (vat w e (sm L D w) (sm L D e)) = sm L S w * sm L D e - sm L D w * sm L S e := fun S => by rw [sm_vat, Int.mul_comm (sm L S e)]
  constructor
  · intro h
    refine ⟨h.ne, h.cl, fun S hS => ?_, fun S hS hz => ?_⟩
    · rw [z, c]; have := h.top S hS; omega
    · rw [z, c] at hz; exact h.sup S hS (by omega)
  · rintro ⟨hn, h⟩
    refine ⟨h.cl, hn, fun S hS => ?_, fun S hS hz => ?_⟩
    · have := h.top S hS
      rw [z, c] at this; omega
    · exact h.sup S hS (by rw [z, c]; omega)
theorem Dens.uniq {L : List α} {R : α → α → Bool} {w e : α → Int} {D D' : α → Bool} (h : Dens L R w e D) (g : Dens L R w e D') : ∀ x ∈ L, D x = D' x := fun x hx => by
  have a := h.top D' g.cl
  have b := g.top D h.cl
  have a2 : sm L D' w * sm L D e = sm L D w * sm L D' e := Int.le_antisymm a b
  rw [Bool.eq_iff_iff]
  exact ⟨g.sup D h.cl a2.symm x hx, h.sup D' g.cl a2 x hx⟩
/-- one step towards the densest set -/
structure Step (L : List α) (R : α → α → Bool) (w e : α → Int) (F B : α → Bool) : Prop where
  cl : Cl L R F
  ne : ∃ x ∈ L, F x = true
  best : Best L R (vat w e (sm L F w) (sm L F e)) B
  sub : ∀ x ∈ L, B x = true → F x = true
theorem sm_pos_ne {L : List α} {e : α → Int} (he : ∀ x ∈ L, 0 < e x) {F : α → Bool} (h : ∃ x ∈ L, F x = true) : 0 < sm L F e := by
  obtain ⟨x, hx, hs⟩ := h
  exact sm_pos (fun y hy _ => he y hy) hx hs
theorem Step.ne' {L : List α} {R : α → α → Bool} {w e : α → Int} {F B : α → Bool} (h : Step L R w e F B) : ∃ x ∈ L, B x = true := by
  apply Classical.byContradiction
  intro hc
  have hz : ∀ x ∈ L, B x = false := fun x hx => by
    cases e : B x
    · rfl
    · exact absurd ⟨x, hx, e⟩ hc
  have e0 := sm_none (vat w e (sm L F w) (sm L F e)) hz
  have e1 : sm L F (vat w e (sm L F w) (sm L F e)) = 0 := by rw [sm_vat, Int.mul_comm (sm L F e)]; omega
  obtain ⟨x, hx, hs⟩ := h.ne
  have := h.best.sup F h.cl (by rw [e0, e1]) x hx hs
  rw [hz x hx] at this; cases this
theorem Step.first {L : List α} {R : α → α → Bool} {w e : α → Int} {B : α → Bool} (hne : L ≠ []) (hB : Best L R (vat w e (sm L (fun _ => true) w) (sm L (fun _ => true) e)) B) : Step L R w e (fun _ => true) B :=
  ⟨fun _ _ _ _ _ _ => rfl, (by cases L with
    | nil => exact absurd rfl hne
    | cons x L => exact ⟨x, .head _, rfl⟩), hB, fun _ _ _ => rfl⟩
theorem Step.next {L : List α} {R : α → α → Bool} {w e : α → Int} (he : ∀ x ∈ L, 0 < e x) {F B C : α → Bool} (h : Step L R w e F B) (hC : Best L R (vat w e (sm L B w) (sm L B e)) C) : Step L R w e B C := by
  have hb := h.ne'
  refine ⟨h.best.cl, hb, hC, best_mono (fun x hx => Int.le_of_lt (he x hx)) (sm_pos_ne he h.ne) (sm_pos_ne he hb) ?_ h.best hC⟩
  have := h.best.top F h.cl
  rw [sm_vat, sm_vat, Int.mul_comm (sm L F e)] at this
  have e2 : sm L B e * sm L F w = sm L F w * sm L B e := Int.mul_comm _ _
  omega
theorem Step.done {L : List α} {R : α → α → Bool} {w e : α → Int} {F B : α → Bool} (h : Step L R w e F B) (hs : ∀ x ∈ L, B x = F x) : Dens L R w e F := by
  refine dens_iff.mpr ⟨h.ne, ?_⟩
  have e1 : ∀ S T : α → Bool, (∀ x ∈ L, S x = T x) → ∀ v : α → Int, sm L S v = sm L T v := fun S T q v => sm_congr fun x hx => ⟨q x hx, fun _ => rfl⟩
  have q := h.best
  generalize vat w e (sm L F w) (sm L F e) = v at q ⊢
  exact ⟨h.cl, fun S hS => by rw [← e1 B F hs v]; exact q.top S hS, fun S hS hz x hx q2 => by rw [← hs x hx]; exact q.sup S hS (by rw [hz, e1 B F hs v]) x hx q2⟩
end FL

/-! M3: fractions in lowest terms. -/
namespace FL
/-- the fraction of a / b -/
def fr (a b : Int) : Int × Int := (a / (Int.gcd a b : Int), b / (Int.gcd a b : Int))
theorem gcd_pos' {a b : Int} (h : 0 < b) : (0 : Int) < (Int.gcd a b : Int) := by
  have : 0 < Int.gcd a b := Int.gcd_pos_iff.mpr (.inr (by omega))
  omega
theorem fr_mul1 (a b : Int) : (fr a b).1 * (Int.gcd a b : Int) = a := Int.ediv_mul_cancel (Int.gcd_dvd_left ..)
theorem fr_mul2 (a b : Int) : (fr a b).2 * (Int.gcd a b : Int) = b := Int.ediv_mul_cancel (Int.gcd_dvd_right ..)
theorem fr_pos {a b : Int} (h : 0 < b) : 0 < (fr a b).2 := by
  have h1 := gcd_pos' (a := a) h
  have h2 := fr_mul2 a b
  rcases Int.lt_or_le 0 (fr a b).2 with q | q
  · exact q
  · have : (fr a b).2 * (Int.gcd a b : Int) ≤ 0 := Int.mul_nonpos_of_nonpos_of_nonneg q (Int.le_of_lt h1)
    omega
end FL

/-! M4: the chain. -/
namespace FL
variable {α : Type} [DecidableEq α]
/-- the chain of L: the greatest densest sets, one behind the other -/
inductive Chain (R : α → α → Bool) (w e : α → Int) : List α → List (List α) → Prop
  | nil : Chain R w e [] []
  | cons {L : List α} {D : α → Bool} {bs : List (List α)} : Dens L R w e D → Chain R w e (L.filter fun x => !D x) bs → Chain R w e L (L.filter D :: bs)
theorem filter_congr' {L : List α} {p q : α → Bool} (h : ∀ x ∈ L, p x = q x) : L.filter p = L.filter q := List.filter_congr h
theorem Chain.uniq {R : α → α → Bool} {w e : α → Int} {L : List α} {bs : List (List α)} (h : Chain R w e L bs) : ∀ {cs : List (List α)}, Chain R w e L cs → bs = cs := by
  induction h with
  | nil => intro cs g; cases g with
    | nil => rfl
    | cons d _ => obtain ⟨x, hx, _⟩ := d.ne; cases hx
  | @cons L D bs d _ ih =>
    intro cs g
    cases g with
    | nil => obtain ⟨x, hx, _⟩ := d.ne; cases hx
    | @cons _ D' cs d' g =>
      have e1 := d.uniq d'
      have e2 : (L.filter fun x => !D x) = L.filter fun x => !D' x := filter_congr' fun x hx => by rw [e1 x hx]
      rw [← e2] at g
      rw [ih g, filter_congr' e1]
/-- the sum over a filtered list -/
theorem sm_filt (L : List α) (p S : α → Bool) (v : α → Int) : sm (L.filter p) S v = sm L (fun x => p x && S x) v := by
  induction L with
  | nil => rfl
  | cons x L ih =>
    by_cases h : p x = true
    · rw [List.filter_cons_of_pos h]; simp only [sm, ih, h, Bool.true_and]
    · rw [List.filter_cons_of_neg h, ih]; simp only [sm]; rw [if_neg (by simp [h])]; omega
/-- what was a closed set of the rest is one with what is done -/
theorem Cl.union {L : List α} {R : α → α → Bool} {A S : α → Bool} (hA : Cl L R A) (hS : Cl (L.filter fun x => !A x) R S) : Cl L R fun x => A x || (S x && !A x) := fun x hx hs y hy hr => by
  by_cases ha : A y = true
  · simp [ha]
  · have ha : A y = false := by simpa using ha
    rcases Bool.or_eq_true _ _ ▸ hs with h | h
    · exact absurd (hA x hx h y hy hr) (by simp [ha])
    · have h := Bool.and_eq_true _ _ ▸ h
      have hx2 : x ∈ L.filter fun x => !A x := List.mem_filter.mpr ⟨hx, h.2⟩
      have hy2 : y ∈ L.filter fun x => !A x := List.mem_filter.mpr ⟨hy, by simp [ha]⟩
      simp [hS x hx2 h.1 y hy2 hr, ha]
theorem Cl.rest {L : List α} {R : α → α → Bool} {p S : α → Bool} (hS : Cl L R S) : Cl (L.filter p) R S := fun x hx hs y hy hr =>
  hS x (List.mem_filter.mp hx).1 hs y (List.mem_filter.mp hy).1 hr
end FL

/-! ME: tables of pairs: as transports, as dicts whose keys are pairs of texts. -/
namespace FL
variable {α : Type} [DecidableEq α]
def getP (F : Tr α) (k : α × α) : Option Int := (F.find? fun p => decide (p.1 = k)).map (·.2)
end FL
namespace WL
open PySem PySem.Spec PyProof.Rows L2
end WL

/-! YF: a comprehension inside a comprehension. -/
namespace WL
open PySem PySem.Spec PyProof.Rows L2
section
variable {G : Glob} {X : Cx} {O : XO} {h : FG} {tg elt : Expr}
end
section
variable {G : Glob} {X : Cx} {O : XO} {rk : Bool} {n1 n2 : Nat} {g : FS} {pos : Pos}
theorem s_forZ {m : Nat} {tg iter : Expr} {body : List Stmt} {fi : FI} {h : FG} {sl : List Nat} (hp : PassesOwn (model X.prog X.w) X.A X.env X.xe) (hc : X.calm = true) (hi : PDi G X O tg iter n1 fi) (hg : PDg G X O tg sl h) (hb : PDb G X O rk body m g) (h2 : m = 0 := by rfl) (hfs : ∀ x, foldedSetIterable iter X.env x = pure x := by intro _; rfl) :
    PDs G X O rk (.For tg iter body [] pos) n1 (fFor fi h g) := by
  subst h2
  exact s_for hp hc hi hg hb hfs
end
end WL

/-! YG: [e for x in xs if t for x1 in xs1 if t1]. -/
namespace WL
open PySem PySem.Spec PyProof.Rows L2
def lcL2 (h : FG) (ft : FT) (fi1 : FI) (h1 : FG) (ft1 : FT) (fe : FE) (vs1 : List Nat) (P : List D → Prop) : List D → List D → EnvD → Prop
  | [], acc, _ => P acc
  | x :: r, acc, ρ => h x ρ fun ρ1 => ft ρ1 fun ρ2 b => if b = true then fi1 ρ2 fun ρ3 xs1 => acc.length + xs1.length ≤ sizeLine ∧ lcL h1 ft1 fe (fun acc' => lcL2 h ft fi1 h1 ft1 fe vs1 P r acc' ρ) xs1 acc (wipeD ρ3 vs1) else lcL2 h ft fi1 h1 ft1 fe vs1 P r acc ρ
def fLc2 (fi : FI) (h : FG) (ft : FT) (fi1 : FI) (h1 : FG) (ft1 : FT) (fe : FE) (vs vs1 : List Nat) : FE := fun ρ Kc => fi ρ fun ρ1 xs => noOwn ρ1 vs ∧ xs.length ≤ sizeLine ∧ lcL2 h ft fi1 h1 ft1 fe vs1 (fun ys => Kc ρ1 (.lst ys)) xs [] (wipeD ρ1 vs)
section
variable {G : Glob} {X : Cx} {O : XO} {ni : Nat} {h h1 : FG} {sl vs1 : List Nat} {tg tg1 elt : Expr}
end
end WL

/-! YH: sum(d.values()). -/
namespace WL
open PySem PySem.Spec PyProof.Rows L2
section
variable {X : Cx} {o : Expr} {p pos apos mpos : Pos} {td : TE}
end
def sumVD (d : D) (P : D → Prop) : Prop := match d with
  | .dct ps => (∀ p ∈ ps, isT p.1 = false) ∧ match intsL (ps.map (·.2)) with | some bs => P (.int bs.sum) | none => False
  | _ => False
section
variable {G : Glob} {X : Cx} {O : XO} {o : Expr} {p pos apos mpos : Pos} {ka : Kd} {ca : Bool} {na : Nat} {fa : FE}
end
/-! ### sorted(xs), ints -/
def srtI (d : D) (P : D → Prop) : Prop := match d with
  | .lst ds => ∃ is : List Int, ds = is.map D.int ∧ is.length < 64 ∧ ∀ js : List Int, js.Perm is → js.Pairwise (· ≤ ·) → P (.lst (js.map D.int))
  | _ => False
section
variable {G : Glob} {X : Cx} {O : XO} {e : Expr} {p pos : Pos} {ka : Kd} {ca : Bool} {na : Nat} {fa : FE}
end
end WL

/-! YI: zip of two lists. -/
namespace WL
open PySem PySem.Spec PyProof.Rows L2
def zipD (xs ys : List D) : List D := List.zipWith (fun x y => .tup [x, y]) xs ys
section
variable {G : Glob} {K : PySem.W.Frag} {S : Fz} {a b : Addr} {vs ws : List V} {xs ys : List D}
end
def fZip (fa : FA) : FI := fun ρ Kc => fa ρ fun ρ' ds => match ds with
  | [.lst xs, .lst ys] => Kc ρ' (zipD xs ys)
  | _ => False
end WL

/-! MF: the chain and the best sets. -/
namespace FL
variable {α : Type} [DecidableEq α]
theorem frac_lt_trans {a b c d e f : Int} (hb : 0 < b) (hd : 0 < d) (hf : 0 < f) (h1 : a * d < c * b) (h2 : c * f < e * d) : a * f < e * b := by
  have x1 : a * d * f < c * b * f := Int.mul_lt_mul_of_pos_right h1 hf
  have x2 : c * f * b < e * d * b := Int.mul_lt_mul_of_pos_right h2 hb
  have e1 : c * b * f = c * f * b := Int.mul_right_comm ..
  have x3 : a * d * f < e * d * b := by rw [e1] at x1; exact Int.lt_trans x1 x2
  have e2 : a * d * f = a * f * d := Int.mul_right_comm ..
  have e3 : e * d * b = e * b * d := Int.mul_right_comm ..
  rw [e2, e3] at x3
  exact Int.lt_of_mul_lt_mul_right x3 (Int.le_of_lt hd)
theorem frac_le_lt {a b c d e f : Int} (hb : 0 < b) (hd : 0 < d) (hf : 0 < f) (h1 : a * d ≤ c * b) (h2 : c * f < e * d) : a * f < e * b := by
  have x1 : a * d * f ≤ c * b * f := Int.mul_le_mul_of_nonneg_right h1 (Int.le_of_lt hf)
  have x2 : c * f * b < e * d * b := Int.mul_lt_mul_of_pos_right h2 hb
  have e1 : c * b * f = c * f * b := Int.mul_right_comm ..
  have x3 : a * d * f < e * d * b := by rw [e1] at x1; exact Int.lt_of_le_of_lt x1 x2
  have e2 : a * d * f = a * f * d := Int.mul_right_comm ..
  have e3 : e * d * b = e * b * d := Int.mul_right_comm ..
  rw [e2, e3] at x3
  exact Int.lt_of_mul_lt_mul_right x3 (Int.le_of_lt hd)
def sW (w : α → Int) (b : List α) : Int := (b.map w).sum
theorem sW_filter (L : List α) (D : α → Bool) (w : α → Int) : sW w (L.filter D) = sm L D w := (sm_filter L D w).symm
theorem sm_dis (L : List α) (A S : α → Bool) (v : α → Int) : sm L (fun x => A x || (S x && !A x)) v = sm L A v + sm (L.filter fun x => !A x) S v := by
  rw [sm_filt]
  induction L with
  | nil => rfl
  | cons x L ih =>
    simp only [sm, ih]
    by_cases h1 : A x = true <;> by_cases h2 : S x = true <;> simp [h1, h2] <;> omega
/-- the next block is less dense -/
theorem Dens.next {L : List α} {R : α → α → Bool} {w e : α → Int} (he : ∀ x ∈ L, 0 < e x) {D D2 : α → Bool} (h : Dens L R w e D) (g : Dens (L.filter fun x => !D x) R w e D2) :
    sm (L.filter fun x => !D x) D2 w * sm L D e < sm L D w * sm (L.filter fun x => !D x) D2 e := by
  have hc := Cl.union h.cl g.cl
  have t := h.top _ hc
  rw [sm_dis, sm_dis, Int.add_mul, Int.mul_add] at t
  have t2 : sm (L.filter fun x => !D x) D2 w * sm L D e ≤ sm L D w * sm (L.filter fun x => !D x) D2 e := by omega
  rcases Int.lt_or_eq_of_le t2 with q | q
  · exact q
  · exfalso
    have s := h.sup _ hc (by rw [sm_dis, sm_dis, Int.add_mul, Int.mul_add, q])
    obtain ⟨x, hx, h2⟩ := g.ne
    obtain ⟨h3, h4⟩ := List.mem_filter.mp hx
    have h5 : D x = false := by simpa using h4
    have := s x h3 (by simp [h5, h2])
    rw [h5] at this; cases this
/-- densities fall -/
theorem Chain.fall {R : α → α → Bool} {w e : α → Int} {L : List α} {bs : List (List α)} (he : ∀ x ∈ L, 0 < e x) (h : Chain R w e L bs) :
    (∀ b ∈ bs, 0 < sW e b) ∧ bs.Pairwise fun b c => sW w c * sW e b < sW w b * sW e c := by
  induction h with
  | nil => exact ⟨fun b hb => (by cases hb), .nil⟩
  | @cons L D bs d hc ih =>
    obtain ⟨i1, i2⟩ := ih fun x hx => he x (List.mem_filter.mp hx).1
    have hD : 0 < sW e (L.filter D) := by rw [sW_filter]; exact sm_pos_ne he d.ne
    refine ⟨fun b hb => ?_, .cons (fun c hcb => ?_) i2⟩
    · rcases List.mem_cons.mp hb with rfl | hb
      · exact hD
      · exact i1 b hb
    · clear ih
      generalize hL : (L.filter fun x => !D x) = L' at hc
      cases hc with
      | nil => cases hcb
      | @cons _ D2 bs2 d2 _ =>
        have n := d.next he (by rw [hL]; exact d2)
        rw [hL, ← sW_filter, ← sW_filter, ← sW_filter, ← sW_filter] at n
        rcases List.mem_cons.mp hcb with rfl | q
        · exact n
        · have j := List.rel_of_pairwise_cons i2 q
          exact frac_lt_trans (i1 c (.tail _ q)) (i1 _ (.head _)) hD j n
theorem Chain.mem {R : α → α → Bool} {w e : α → Int} {L : List α} {bs : List (List α)} (h : Chain R w e L bs) : ∀ {c : List α}, c ∈ bs → ∀ {x : α}, x ∈ c → x ∈ L := by
  induction h with
  | nil => intro c hc; cases hc
  | @cons L D bs d _ ih =>
    intro c hc x hx
    rcases List.mem_cons.mp hc with rfl | q
    · exact (List.mem_filter.mp hx).1
    · exact (List.mem_filter.mp (ih q hx)).1
theorem sm_congr2 {L : List α} {S T : α → Bool} (v : α → Int) (h : ∀ x ∈ L, S x = T x) : sm L S v = sm L T v := sm_congr fun x hx => ⟨h x hx, fun _ => rfl⟩
/-- what is best takes the blocks that are no less dense than the price -/
theorem Best.chain {R : α → α → Bool} {w e : α → Int} {t b : Int} (hb : 0 < b) (ht : 0 ≤ t) {L : List α} {bs : List (List α)} (h : Chain R w e L bs) (he : ∀ x ∈ L, 0 < e x) : ∀ {U : α → Bool}, Best L R (vat w e t b) U →
    ∀ c ∈ bs, ∀ x ∈ c, (U x = true ↔ t * sW e c ≤ sW w c * b) := by
  induction h with
  | nil => intro U _ c hc; cases hc
  | @cons L D bs d hc ih =>
    intro U hU c hcm x hx
    have hfall := (Chain.cons d hc).fall he
    have hDp : 0 < sm L D e := sm_pos_ne he d.ne
    have val : ∀ S, sm L S (vat w e t b) = sm L S w * b - sm L S e * t := fun S => sm_vat L S w e t b
    by_cases hD : t * sm L D e ≤ sm L D w * b
    · -- the first block is in what is best
      have hand := d.cl.and hU.cl
      have hor := d.cl.or hU.cl
      have ho := sm_or L D U (vat w e t b)
      have tp := d.top _ hand
      have hge : sm L (fun x => D x && U x) (vat w e t b) ≤ sm L D (vat w e t b) := by
        rw [val, val]
        generalize sm L (fun x => D x && U x) w = wi at *
        generalize hei : sm L (fun x => D x && U x) e = ei at *
        have hle : ei ≤ sm L D e := by
          rw [← hei]
          have q := sm_diff L D U e
          have q2 : 0 ≤ sm L (fun x => D x && !U x) e := sm_nn fun x hx _ => Int.le_of_lt (he x hx)
          omega
        generalize sm L D w = wd at *
        generalize sm L D e = ed at *
        -- (wd - wi) * ed >= wd * (ed - ei), so (wd - wi) * b >= t * (ed - ei)
        have a1 : wd * (ed - ei) ≤ (wd - wi) * ed := by rw [Int.mul_sub, Int.sub_mul]; omega
        have a2 : wd * (ed - ei) * b ≤ (wd - wi) * ed * b := Int.mul_le_mul_of_nonneg_right a1 (Int.le_of_lt hb)
        have a3 : t * ed * (ed - ei) ≤ wd * b * (ed - ei) := Int.mul_le_mul_of_nonneg_right hD (by omega)
        have e1 : wd * (ed - ei) * b = wd * b * (ed - ei) := Int.mul_right_comm ..
        have e2 : (wd - wi) * ed * b = (wd - wi) * b * ed := Int.mul_right_comm ..
        have e3 : t * ed * (ed - ei) = t * (ed - ei) * ed := Int.mul_right_comm ..
        have a4 : t * (ed - ei) * ed ≤ (wd - wi) * b * ed := by rw [← e3, ← e2]; rw [e1] at a2; exact Int.le_trans a3 a2
        have a5 : t * (ed - ei) ≤ (wd - wi) * b := Int.le_of_mul_le_mul_right a4 hDp
        rw [Int.mul_sub, Int.sub_mul] at a5
        have c1 : ei * t = t * ei := Int.mul_comm ..
        have c2 : ed * t = t * ed := Int.mul_comm ..
        omega
      have hsub : ∀ y ∈ L, D y = true → U y = true := fun y hy hy2 => by
        have tU := hU.top _ hor
        have e0 : sm L (fun x => D x || U x) (vat w e t b) = sm L U (vat w e t b) := by omega
        exact hU.sup _ hor e0 y hy (by simp [hy2])
      rcases List.mem_cons.mp hcm with rfl | hcm
      · obtain ⟨h1, h2⟩ := List.mem_filter.mp hx
        rw [sW_filter, sW_filter]
        exact ⟨fun _ => hD, fun _ => hsub x h1 h2⟩
      · have hUr : Best (L.filter fun x => !D x) R (vat w e t b) U := by
          have eU : sm L U (vat w e t b) = sm L D (vat w e t b) + sm (L.filter fun x => !D x) U (vat w e t b) := by
            rw [← sm_dis]
            refine sm_congr2 _ fun y hy => ?_
            cases hDy : D y with
            | true => rw [hsub y hy hDy]; rfl
            | false => simp
          refine ⟨Cl.rest hU.cl, fun S hS => ?_, fun S hS eS y hy hSy => ?_⟩
          · have := hU.top _ (Cl.union d.cl hS)
            rw [sm_dis] at this
            omega
          · have hyL := List.mem_filter.mp hy
            refine hU.sup _ (Cl.union d.cl hS) (by rw [sm_dis]; omega) y hyL.1 ?_
            have : D y = false := by simpa using hyL.2
            simp [this, hSy]
        exact ih (fun y hy => he y (List.mem_filter.mp hy).1) hUr c hcm x hx
    · -- nothing is worth its price
      have hD : sm L D w * b < t * sm L D e := Int.not_le.mp hD
      have hnone : ∀ y ∈ L, U y = false := fun y hy => by
        cases hUy : U y with
        | false => rfl
        | true =>
          exfalso
          have hUp : 0 < sm L U e := sm_pos_ne he ⟨y, hy, hUy⟩
          have t1 := d.top U hU.cl
          have t2 := hU.top (fun _ => false) (fun _ _ h => nomatch h)
          rw [sm_none (S := fun _ => false) _ fun _ _ => rfl, val] at t2
          have a1 : sm L U w * b < t * sm L U e := frac_le_lt hUp hDp hb t1 hD
          have c1 : sm L U e * t = t * sm L U e := Int.mul_comm ..
          omega
      have hxL : x ∈ L := by
        rcases List.mem_cons.mp hcm with rfl | q
        · exact (List.mem_filter.mp hx).1
        · exact (List.mem_filter.mp (hc.mem q hx)).1
      have hlt : sW w c * b < t * sW e c := by
        rcases List.mem_cons.mp hcm with rfl | q
        · rw [sW_filter, sW_filter]; exact hD
        · have j := List.rel_of_pairwise_cons hfall.2 q
          rw [sW_filter, sW_filter] at j
          exact frac_lt_trans (hfall.1 c hcm) hDp hb j hD
      rw [hnone x hxL]
      constructor
      · intro h; cases h
      · intro h; omega
theorem Chain.perm {R : α → α → Bool} {w e : α → Int} {L : List α} {bs : List (List α)} (h : Chain R w e L bs) : bs.flatten.Perm L := by
  induction h with
  | nil => exact .refl _
  | @cons L D bs d _ ih =>
    rw [List.flatten_cons]
    refine (List.Perm.append_left _ ih).trans ?_
    exact List.filter_append_perm D L
end FL

/-! YJ: own operators (|, -, >> by __or__, __sub__, __rshift__). -/
namespace WL
open PySem PySem.Spec PyProof.Rows L2
/-- what an own operator asks of its class -/
structure OpB (K : PySem.W.Frag) (C : Addr) (nm : String) : Prop where
  sf : PySem.W.selfFirst K C = true
  rn : PySem.W.findIn K (.ref C) (dunderR nm) = some none
  t1 : ∃ fo, PySem.W.findIn K (.type "str") (PySem.dunder nm) = some fo
  t2 : ∃ ro, PySem.W.findIn K (.type "str") (dunderR nm) = some ro
  sb : PySem.W.subIn K (.type "str") (.ref C) = some false
section
variable {X : Cx} {k : Nat} {f C : Addr} {fd : FuncData} {ps : List Str} {sp : Sp}
end
section
variable {G : Glob} {X : Cx} {O : XO} {a b e : Expr} {ka kb : Kd} {ca cb : Bool} {na nb : Nat} {fa fb : FE} {pos p : Pos} {k j : Nat} {m : Spc} {cc : Nat}
def fBinO (cc : Nat) (m : Spc) (fa fb : FE) : FE := fun ρ Kc => fa ρ fun ρ1 x => fb ρ1 fun ρ2 y => (∃ fs, x = .ins cc fs) ∧ ((∃ z, y = .str z) ∨ ∃ gs, y = .ins cc gs) ∧ m.pre [x, y] ∧ ∀ d, m.post [x, y] d → Kc ρ2 d
end
end WL

/-! YK: x, y, z = e, f, g where containers of one's own are among the last two values. -/
namespace WL
open PySem PySem.Spec PyProof.Rows L2
def fPar3F (i j l : Nat) (kj kl : Bool) (fa fb fc : FE) : FS := fun Ed ρ => fa ρ fun ρ1 x => fParK j l kj kl fb fc { Ed with nx := fun ρ' => Ed.nx (ρ'.set i (some (.imm x))) } ρ1
section
variable {G : Glob} {X : Cx} {O : XO} {rk : Bool} {a b c : Expr} {ca cb cc : Bool} {na nb nc : Nat} {fa fb fc : FE} {pos px py pz pt pt2 : Pos} {x y z : Str} {kt k2 : Nat}
end
end WL

/-! YL: sorted of a dict whose keys are tuples of texts: they come in some order. -/
namespace WL
open PySem PySem.Spec PyProof.Rows L2
section
variable {prog : Program} {w : World} {A : Around} {E : Value → Shared → Prop} {s : Shared}
end
/-! ### tuples of texts compare -/
theorem perm_unmap {α β : Type} {f : α → β} : ∀ {out : List β} {zs : List α}, out.Perm (zs.map f) → ∃ zs' : List α, zs'.Perm zs ∧ out = zs'.map f
  | [], zs, h => by
    have := h.length_eq
    rw [List.length_map] at this
    exact ⟨[], by rw [List.length_eq_zero_iff.mp this.symm], rfl⟩
  | y :: ys, zs, h => by
    obtain ⟨z, hz, rfl⟩ := List.mem_map.mp (h.mem_iff.mp (List.mem_cons_self ..))
    obtain ⟨l1, l2, rfl⟩ := List.append_of_mem hz
    have h2 : (f z :: ys).Perm (f z :: (l1 ++ l2).map f) := h.trans (by
      rw [List.map_append, List.map_cons, List.map_append]
      exact List.perm_middle)
    obtain ⟨zs', h3, rfl⟩ := perm_unmap (List.Perm.cons_inv h2)
    exact ⟨z :: zs', (List.Perm.cons z h3).trans List.perm_middle.symm, rfl⟩
section
variable {X : Cx}
end
/-! ### over data -/
def tupS : D → Bool
  | .tup (x :: xs) => (x :: xs).all fun d => match d with | .str _ => true | _ => false
  | _ => false
def srtT (d : D) (P : D → Prop) : Prop := match d with
  | .dct ps => (ps.all fun p => tupS p.1) = true ∧ ps.length < sizeLine ∧ ∀ ys : List D, ys.Perm (ps.map (·.1)) → P (.lst ys)
  | _ => False
section
variable {G : Glob} {X : Cx} {O : XO} {e : Expr} {k ka : Kd} {ca : Bool} {na : Nat} {fa : FE} {p pos : Pos}
end
end WL

/-! YM: plain facts: dicts whose keys are tuples of texts. -/
namespace WL
open PySem PySem.Spec PyProof.Rows L2
def nsD (l : List Str) : D := .tup (l.map D.str)
section
variable {α β : Type}
/-- a dict with tuples of texts as keys -/
def tk (f : α → D) (M : List (List Str × α)) : List (D × D) := M.map fun p => (nsD p.1, f p.2)
def kt (M : List (List Str × α)) : List (List Str) := M.map (·.1)
def getT (M : List (List Str × α)) (n : List Str) : Option α := (M.find? fun p => decide (p.1 = n)).map (·.2)
end
end WL

/-! YN: a loop over a list that a slot alone holds; the slot is locked meanwhile. -/
namespace WL
open PySem PySem.Spec PyProof.Rows L2
def XO.lock (O : XO) (i : Nat) : XO := { O with keep := fun j => decide (j = i) || O.keep j }
def Bs.at_ (B : Bs) (σ : L2.St) : Bs := { B with sl := fun j => σ[j]? }
section
variable {G : Glob} {K : PySem.W.Frag} {O : XO} {B : Bs} {S S' : Fz} {H H' : Hp} {σ σ' σ0 : L2.St} {ρ ρ' : EnvD} {i : Nat}
end
/-- rounds over what slot i holds -/
def forLO (i : Nat) (xs : List D) (h : FG) (gb : FS) (Ed : EndsD) : List D → EnvD → Prop
  | [], ρ => Ed.nx ρ
  | x :: r, ρ => h x ρ fun ρ1 => gb { nx := fun ρ2 => ρ2[i]? = some (some (Slot.own (.lst xs))) ∧ forLO i xs h gb Ed r ρ2, ct := fun ρ2 => ρ2[i]? = some (some (Slot.own (.lst xs))) ∧ forLO i xs h gb Ed r ρ2, bk := Ed.nx, rt := Ed.rt } ρ1
def fForO (i : Nat) (h : FG) (gb : FS) : FS := fun Ed ρ => ∃ xs, ρ[i]? = some (some (Slot.own (.lst xs))) ∧ forLO i xs h gb Ed xs ρ
section
variable {G : Glob} {X : Cx} {O : XO} {rk : Bool} {g : FS} {pos : Pos}
end
end WL

/-! YO: is and is not of bools. -/
namespace WL
open PySem PySem.Spec PyProof.Rows L2
def opIsB (x y : D) (P : D → Prop) : Prop := match x, y with
  | .bl c, .bl d => P (.bl (c == d))
  | _, _ => False
def opNotB (x y : D) (P : D → Prop) : Prop := match x, y with
  | .bl c, .bl d => P (.bl (c != d))
  | _, _ => False
section
variable {G : Glob} {X : Cx} {O : XO}
end
end WL

/-! YP: x, y, z = e, f, g where containers of one's own are among the values. -/
namespace WL
open PySem PySem.Spec PyProof.Rows L2
def fPar3K (i j l : Nat) (ki kj kl : Bool) (fa fb fc : FE) : FS := fun Ed ρ => fa ρ fun ρ1 x => fParK j l kj kl fb fc { Ed with nx := fun ρ' => slotK ki x fun s => Ed.nx (ρ'.set i (some s)) } ρ1
section
variable {G : Glob} {X : Cx} {O : XO} {rk : Bool} {a b c : Expr} {ca cb cc : Bool} {na nb nc : Nat} {fa fb fc : FE} {pos px py pz pt pt2 : Pos} {x y z : Str} {kt k2 : Nat}
end
end WL

/-! YQ: list(d.items()). -/
namespace WL
open PySem PySem.Spec PyProof.Rows L2
section
variable {G : Glob} {K : PySem.W.Frag} {O : XO} {B : Bs} {S : Fz} {H H' : Hp} {σ : L2.St} {ρ : EnvD}
theorem Sta.ext (I : Sta G K B S H) (h : ∀ b o, H b = some o → H' b = some o) : Sta G K B S H' := by
  refine ⟨fun b o e => h _ _ (I.le b o e), I.sm, G.jlaw S.T H _ I.j fun b o e _ => h b o e, fun b e => ?_, I.sn, fun b o e m n => ?_⟩
  · have := I.dom b e
    cases q : H b with
    | none => exact absurd q this
    | some o => rw [h b o q]; exact fun z => nomatch z
  · rcases I.kept b o e m n with q | ⟨dk, ns, od, q⟩
    · exact .inl (h _ _ q)
    · exact .inr ⟨dk, ns, od, h _ _ q⟩
theorem Eok.ext (I : Eok G K O B S H σ ρ) (h : ∀ b o, H b = some o → H' b = some o) : Eok G K O B S H' σ ρ := by
  have same : ∀ {a : Addr} {o : Own}, Own1 G K B S H a o → H' a = H a := fun {a o} w => by
    cases q : H a with
    | none => exact absurd q w.some
    | some u => exact h a u q
  refine ⟨I.toSta.ext h, I.tz, I.xr, I.im, fun i o e => ?_, I.ap, fun j a o e => ?_, I.ta, I.tt, I.len, I.sf, I.kp⟩
  · obtain ⟨b, q1, q2⟩ := I.ow i o e
    exact ⟨b, q1, q2.keep (n := 0) (Sub.refl _) rfl (same q2)⟩
  · have w := I.tm j a o e
    exact w.keep (n := 0) (Sub.refl _) rfl (same w)
def itemD (p : D × D) : D := .tup [p.1, p.2]
end
def itemsD (d : D) (P : D → Prop) : Prop := match d with
  | .dct ps => (∀ p ∈ ps, isT p.1 = false) ∧ P (.lst (ps.map itemD))
  | _ => False
section
variable {G : Glob} {X : Cx} {O : XO} {o : Expr} {p pos apos cpos : Pos} {ka : Kd} {ca : Bool} {na : Nat} {fa : FE}
end
end WL

/-! MN: the densest set by its size; chains under another relation with the same closed sets. -/
namespace FL
variable {α : Type} [DecidableEq α]
/-- no denser, and no greater if as dense -/
def Cmp (wa ea : Int) (la : Nat) (wb eb : Int) (lb : Nat) : Prop := wa * eb ≤ wb * ea ∧ (wa * eb = wb * ea → la ≤ lb)
theorem Cmp.trans {wa ea wb eb wc ec : Int} {la lb lc : Nat} (ha : 0 < ea) (hb : 0 < eb) (hc : 0 < ec) (h : Cmp wa ea la wb eb lb) (g : Cmp wb eb lb wc ec lc) : Cmp wa ea la wc ec lc := by
  obtain ⟨h1, h2⟩ := h
  obtain ⟨g1, g2⟩ := g
  have a1 := Int.mul_le_mul_of_nonneg_right h1 (Int.le_of_lt hc)
  have a2 := Int.mul_le_mul_of_nonneg_right g1 (Int.le_of_lt ha)
  have e1 : wa * eb * ec = (wa * ec) * eb := by rw [Int.mul_assoc, Int.mul_comm eb, ← Int.mul_assoc]
  have e2 : wb * ea * ec = wb * ec * ea := by rw [Int.mul_assoc, Int.mul_comm ea, ← Int.mul_assoc]
  have e3 : wc * eb * ea = (wc * ea) * eb := by rw [Int.mul_assoc, Int.mul_comm eb, ← Int.mul_assoc]
  rw [e1, e2] at a1
  rw [e3] at a2
  refine ⟨Int.le_of_mul_le_mul_right (Int.le_trans a1 a2) hb, fun q => ?_⟩
  rw [q] at a1
  have b1 : wb * ec * ea = wc * ea * eb := Int.le_antisymm a2 a1
  have c2 : wb * ec = wc * eb := by
    rw [← e3] at b1
    exact Int.eq_of_mul_eq_mul_right (by omega) b1
  have c1 : wa * eb = wb * ea := by
    have : wa * eb * ec = wb * ea * ec := by rw [e1, e2, q, b1]
    exact Int.eq_of_mul_eq_mul_right (by omega) this
  exact Nat.le_trans (h2 c1) (g2 c2)
theorem Cmp.refl (w e : Int) (l : Nat) : Cmp w e l w e l := ⟨Int.le_refl _, fun _ => Nat.le_refl _⟩
end FL

/-! MO: plain facts: rows of steps, what they cost, the cheapest ones. -/
namespace FL
def lmin : List Int → Int
  | [] => 0
  | x :: xs => xs.foldl min x
section
variable {S α : Type} [DecidableEq α] (rd : S → List α) (nx : S → α → S) (sc : S → α → Int)
/-- all rows of so many steps -/
def rows : Nat → S → List (List α)
  | 0, _ => [[]]
  | n + 1, s => (rd s).flatMap fun z => (rows n (nx s z)).map (z :: ·)
/-- what a row costs -/
def fee : S → List α → Int
  | _, [] => 0
  | s, z :: r => sc s z + fee (nx s z) r
def lc (n : Nat) (s : S) : Int := lmin ((rows rd nx n s).map (fee nx sc s))
variable {rd nx sc}
/-- rows built from the front, each one longer by its end -/
def pre (rd : S → List α) (nx : S → α → S) (s : S) : Nat → List (List α)
  | 0 => [[]]
  | k + 1 => (pre rd nx s k).flatMap fun r => (rd (r.foldl nx s)).map fun z => r ++ [z]
end
end FL

/-! YR: a call in a place that must cost nothing. -/
namespace WL
open PySem PySem.Spec PyProof.Rows L2
section
variable {G : Glob} {X : Cx} {O : XO} {e : Expr} {k : Kd} {c : Bool} {n : Nat} {f : FE}
theorem e_n0 (h : PDe G X O e k c n f) (hn : n = 0 := by rfl) : PDe G X O e k c 0 f := by
  subst hn; exact h
end
end WL

/-! YS: sorted(set(xs)), xs a list of texts. -/
namespace WL
open PySem PySem.Spec PyProof.Rows L2
/-- the text of an entry; an entry that is a text's -/
def txK (e : Int × Value) : Str := match e.2 with
  | .str z _ => z
  | _ => Str.empty
def TxE (w : World) (e : Int × Value) : Prop := ∃ z u, e.2 = Value.str z u ∧ e.1 = hashStr w z
/-- the set of texts at a; L its members in some order -/
def TxS (w : World) (h : Heap) (a : Addr) (L : List Str) : Prop :=
  ∃ o es ep t, h.get? a = some o ∧ o.ExactSet ∧ o.data = .set es ep t ∧ (∀ e ∈ es.toList, TxE w e) ∧ (es.toList.map txK).Perm L ∧ L.Nodup ∧ es.size < scanBound ∧ t.fits es.size = true ∧ Ris t.place.toList ∧ (w.params.followText "set-order" = true ∨ t.led = true)
section
variable {P : Program} {w : World} {h h' : Heap} {a : Addr} {L : List Str}
theorem TxS.keep (T : TxS w h a L) (k : ∀ o, h.get? a = some o → h'.get? a = some o) : TxS w h' a L := by
  obtain ⟨o, es, ep, t, e, more⟩ := T
  exact ⟨o, es, ep, t, k o e, more⟩
theorem txs_elems {l : List (Int × Value)} (g : ∀ e ∈ l, TxE w e) : ElemsOf (strKind P w) l := by
  intro e m
  obtain ⟨z, u, e1, e2⟩ := g e m
  refine ⟨⟨z, ?_, e2⟩, ?_⟩
  · rw [e1]; exact strKind_is ..
  · rw [e1]; rfl
theorem txs_is {e : Int × Value} (g : TxE w e) (z : Str) : (strKind P w).is z e.2 = true ↔ txK e = z := by
  obtain ⟨y, u, e1, _⟩ := g
  unfold txK
  rw [e1]
  exact beq_iff_eq
theorem txs_mem {l : List (Int × Value)} (g : ∀ e ∈ l, TxE w e) (z : Str) : z ∈ l.map txK ↔ ∃ e ∈ l, (strKind P w).is z e.2 = true := by
  rw [List.mem_map]
  exact ⟨fun ⟨e, m, q⟩ => ⟨e, m, (txs_is (g e m) z).mpr q⟩, fun ⟨e, m, q⟩ => ⟨e, m, (txs_is (g e m) z).mp q⟩⟩
theorem TxS.len (T : TxS w h a L) : ∃ o es ep t, h.get? a = some o ∧ o.data = .set es ep t ∧ es.size = L.length := by
  obtain ⟨o, es, ep, t, e, _, d, _, p, _⟩ := T
  refine ⟨o, es, ep, t, e, d, ?_⟩
  have := p.length_eq
  rw [List.length_map, Array.length_toList] at this
  exact this
end
section
variable {P : Program} {w : World} {A : Around} {E : Value → Shared → Prop} {s : Shared} {a : Addr} {L : List Str}
/-- behind a new entry: the table may be laid anew -/
theorem lay_tail {g : Bool → Sem Unit} (quiet : ∀ (b : Bool) (s1 : Shared) (K : Unit → Shared → Prop), K () s1 → wpAny (model P w) A (g b) K E s1)
    {o : Obj} {es : Array (Int × Value)} {ep : Nat} {t : SetTable} (ho : s.heap.get? a = some o) (dat : o.data = .set es ep t) {fs : Array (Int × Value)} {t2 : SetTable}
    (few : fs.size < scanBound) (fit : t2.fits fs.size = true) (ris : Ris t2.place.toList) {dum : Bool} {R : Option Bool → Shared → Prop}
    (fin : ∀ h' gs ep' t3, Heap.SameBut a s.heap h' → h'.get? a = some { o with data := .set gs ep' t3 } → gs.toList.Perm fs.toList → t3.fits gs.size = true → Ris t3.place.toList → t3.led = t2.led → R (some true) { s with heap := h' }) :
    wpAny (model P w) A (do
        storeSet a fs t2
        if (!dum && t2.tooFull) = true then do
            g (relayAll t2 fs (SetTable.grown fs.size)).2.2
            storeSet a (relayAll t2 fs (SetTable.grown fs.size)).1 (relayAll t2 fs (SetTable.grown fs.size)).2.1
            pure (some true)
          else pure (some true)) R E s := by
  have at1 := store_at (es' := fs) (t' := t2) ho dat
  have but1 := Heap.SameBut.update s.heap a (Obj.putSet fs t2)
  refine wpAny_bind (wpAny_storeSet_of ho dat ?_ (fits_of_scanBound few))
  split
  · have perm := relayAll_perm t2 fs (SetTable.grown fs.size)
    have fit3 := relayAll_fits t2 fs (SetTable.grown fs.size)
    have ris3 := relayAll_ris t2 fs (SetTable.grown fs.size)
    have led3 := relayAll_led t2 fs (SetTable.grown fs.size)
    generalize relayAll t2 fs (SetTable.grown fs.size) = Z at perm fit3 ris3 led3 ⊢
    obtain ⟨gs, t3, gave⟩ := Z
    dsimp only at perm fit3 ris3 led3 ⊢
    have same : gs.size = fs.size := by
      have := perm.length_eq
      rw [Array.length_toList, Array.length_toList] at this
      exact this
    have few3 : gs.size < scanBound := same ▸ few
    have at2 := store_at (es' := gs) (t' := t3) at1 rfl
    refine wpAny_bind (quiet _ _ _ (wpAny_bind (wpAny_storeSet_of at1 rfl ?_ (fits_of_scanBound few3))))
    exact wpAny_pure (fin _ gs _ t3 (but1.trans (Heap.SameBut.update _ a _)) at2 perm fit3 ris3 led3)
  · exact wpAny_pure (fin _ fs _ t2 but1 at1 (List.Perm.refl _) fit ris rfl)
/-- a text is added -/
theorem txs_add {z : Str} {u : Tok} {Q : Bool → Shared → Prop} (T : TxS w s.heap a L) (room : L.length + 1 < scanBound)
    (hQ : ∀ h', Heap.SameBut a s.heap h' → TxS w h' a (if z ∈ L then L else L ++ [z]) → Q (!decide (z ∈ L)) { s with heap := h' }) :
    wpAny (model P w) A (setAddHashed a (.str z u) ((strKind P w).hash z)) Q E s := by
  obtain ⟨o, es, ep, t, ho, ex, dat, good, perm, nd, few, fit, ris, led⟩ := T
  have key : (strKind P w).is z (.str z u) = true := strKind_is ..
  have scan : (Value.str z u).scannable = true := rfl
  have els : ElemsOf (strKind P w) es.toList := txs_elems good
  have size : es.size = L.length := by
    have := perm.length_eq
    rw [List.length_map, Array.length_toList] at this
    exact this
  unfold setAddHashed setAddHashedIn
  refine wpAny_holding (wpAny_bind (wpAny_setState_of ho dat fit ?_))
  dsimp only
  rw [byScan_of scan few els]
  simp only [↓reduceIte]
  unfold setAddByScan
  refine wpAny_bind (wpAny_bind (wpAny_rule (wpAny_bind (wpAny_setScan_of key ho dat fit els ?_))))
  cases found : List.findIdx? (fun e => (strKind P w).is z e.2) es.toList with
  | some j =>
    dsimp only
    obtain ⟨hj, pj, _⟩ := List.findIdx?_eq_some_iff_getElem.mp found
    have inL : z ∈ L := perm.mem_iff.mp ((txs_mem (P := P) good z).mpr ⟨es.toList[j], List.getElem_mem hj, pj⟩)
    have q := hQ s.heap (Heap.SameBut.refl a s.heap) (by rw [if_pos inL]; exact ⟨o, es, ep, t, ho, ex, dat, good, perm, nd, few, fit, ris, led⟩)
    rw [decide_eq_true inL] at q
    exact wpAny_pure (wpAny_pure q)
  | none =>
    dsimp only
    have notL : z ∉ L := fun m => by
      obtain ⟨e, me, q⟩ := (txs_mem (P := P) good z).mp (perm.mem_iff.mpr m)
      have c := List.findIdx?_eq_none_iff.mp found e me
      rw [q] at c
      cases c
    have quiet : ∀ (b : Bool) {s1 : Shared} {K : Unit → Shared → Prop}, K () s1 → wpAny (model P w) A (match b with | true => rule "set.scan.the-table-gave-way" | false => pure ()) K E s1 := fun b s1 K q => by
      cases b
      · exact wpAny_pure q
      · exact wpAny_rule q
    have lp := layNew_perm t es ((strKind P w).hash z) (.str z u)
    have lf := layNew_fits t es ((strKind P w).hash z) (.str z u)
    have lr := layNew_ris t es ((strKind P w).hash z) (.str z u) ris
    have ll := layNew_led t es ((strKind P w).hash z) (.str z u)
    generalize layNew t es ((strKind P w).hash z) (.str z u) = Z at lp lf lr ll ⊢
    obtain ⟨fs, t1, dum, gave⟩ := Z
    dsimp only at lp lf lr ll ⊢
    rw [Array.toList_push] at lp
    have good1 : ∀ e ∈ fs.toList, TxE w e := fun e m => by
      rcases List.mem_append.mp (lp.mem_iff.mp m) with m | m
      · exact good e m
      · rw [List.mem_singleton.mp m]; exact ⟨z, u, rfl, rfl⟩
    have perm1 : (fs.toList.map txK).Perm (L ++ [z]) := by
      have := lp.map txK
      rw [List.map_append] at this
      exact this.trans (perm.append_right _)
    have nd1 : (L ++ [z]).Nodup := List.nodup_append.mpr ⟨nd, by simp, fun x hx y hy e => notL (by rw [← List.mem_singleton.mp hy, ← e]; exact hx)⟩
    have size1 : fs.size = L.length + 1 := by
      have := perm1.length_eq
      rw [List.length_map, Array.length_toList, List.length_append, List.length_singleton] at this
      exact this
    have few1 : fs.size < scanBound := by rw [size1]; exact room
    have led1 : w.params.followText "set-order" = true ∨ t1.led = true := led.imp id fun q => by rw [ll]; exact q
    have done : ∀ (t2 : SetTable) (_ : t2.led = t1.led) (h' : Heap) gs ep' t3, Heap.SameBut a s.heap h' → h'.get? a = some { o with data := .set gs ep' t3 } → gs.toList.Perm fs.toList → t3.fits gs.size = true → Ris t3.place.toList → t3.led = t2.led → Q true { s with heap := h' } := fun t2 e2 h' gs ep' t3 sb at' pm f r l => by
      have q := hQ h' sb (by
        rw [if_neg notL]
        have sz : gs.size = fs.size := by
          have := pm.length_eq
          rw [Array.length_toList, Array.length_toList] at this
          exact this
        exact ⟨_, gs, ep', t3, at', ex, rfl, fun e m => good1 e (pm.mem_iff.mp m), (pm.map txK).trans perm1, nd1, by rw [sz]; exact few1, f, r, led1.imp id fun q => by rw [l, e2]; exact q⟩)
      rw [decide_eq_false notL] at q
      exact q
    refine wpAny_bind (quiet _ ?_)
    split
    · refine wpAny_bind ?_
      rw [hashByValue_scannable 8 scan]
      refine wpAny_pure (lay_tail (fun b s1 K q => quiet b q) ho dat few1 ?_ ?_ fun h' gs ep' t3 sb at' pm f r l => ?_)
      · first
          | exact lf
          | (split <;> first | exact lf | exact SetTable.fits_plain_off lf)
      · first
          | (split <;> exact lr)
          | exact lr
      · dsimp only
        exact wpAny_pure (done _ (by first | rfl | (split <;> rfl)) h' gs ep' t3 sb at' pm f r l)
    · refine wpAny_bind (wpAny_pure ?_)
      simp only [↓reduceIte]
      refine lay_tail (fun b s1 K q => quiet b q) ho dat few1 lf lr fun h' gs ep' t3 sb at' pm f r l => ?_
      dsimp only
      exact wpAny_pure (done _ rfl h' gs ep' t3 sb at' pm f r l)
end
/-- each text once -/
def uniq (xs : List Str) : List Str := xs.foldl (fun L z => if z ∈ L then L else L ++ [z]) []
theorem uniq_snoc (xs : List Str) (z : Str) : uniq (xs ++ [z]) = if z ∈ uniq xs then uniq xs else uniq xs ++ [z] := by
  unfold uniq
  rw [List.foldl_append]; rfl
theorem uniq_ok (xs : List Str) : (uniq xs).Nodup ∧ (uniq xs).length ≤ xs.length ∧ ∀ z, z ∈ uniq xs ↔ z ∈ xs := by
  have main : ∀ n, (uniq (xs.take n)).Nodup ∧ (uniq (xs.take n)).length ≤ (xs.take n).length ∧ ∀ z, z ∈ uniq (xs.take n) ↔ z ∈ xs.take n := by
    intro n
    induction n with
    | zero => simp [uniq]
    | succ n ih =>
      cases e : xs[n]? with
      | none =>
        have : xs.take (n + 1) = xs.take n := by rw [List.take_add_one, e]; simp
        rw [this]; exact ih
      | some y =>
        have : xs.take (n + 1) = xs.take n ++ [y] := by rw [List.take_add_one, e]; rfl
        obtain ⟨a, b, c⟩ := ih
        rw [this, uniq_snoc, List.length_append]
        by_cases m : y ∈ uniq (xs.take n)
        · rw [if_pos m]
          refine ⟨a, by omega, fun z => ?_⟩
          rw [c, List.mem_append, List.mem_singleton]
          exact ⟨.inl, fun q => q.elim id fun q => by rw [q]; exact (c y).mp m⟩
        · rw [if_neg m]
          refine ⟨List.nodup_append.mpr ⟨a, by simp, fun x hx y' hy q => m (by rw [← List.mem_singleton.mp hy, ← q]; exact hx)⟩, by rw [List.length_append]; simp only [List.length_singleton]; omega, fun z => ?_⟩
          rw [List.mem_append, c, List.mem_append]
  have := main xs.length
  rwa [List.take_length] at this
section
variable {P : Program} {w : World} {A : Around} {E : Value → Shared → Prop} {s : Shared}
/-- the texts that an iterator gives are added one by one -/
theorem txs_loop {I : Addr} {fp wr : List Addr} {G : Array GenState → Array GenState → Prop} {n : Nat} {Pv : Nat → Value → Prop} {St : Nat → Shared → Prop} {R : Result → Shared → Prop} (W : WalksS P w A.in1 I fp wr G n Pv St)
    (a : Addr) (apart : a ∉ fp) (xs : List Str) (many : n = xs.length) (small : xs.length + 1 < scanBound) (val : ∀ i v, Pv i v → ∃ z u, xs[i]? = some z ∧ v = .str z u) :
    ∀ (left i : Nat) (s : Shared), n - i = left → i ≤ n → St i s → TxS w s.heap a (uniq (xs.take i)) →
      (∀ s', Moved (a :: wr) G s s' → TxS w s'.heap a (uniq xs) → R (.ok (.ret .none)) s') → codeAny (model P w) A (.builtin "set.update.loop" ⟨[.ref a, .ref I], []⟩) R s := by
  have aw : a ∉ wr := fun q => apart (W.sub _ q)
  have more : ∀ b ∈ wr, b ∈ a :: wr := fun b q => .tail _ q
  intro left
  induction left with
  | zero =>
    intro i s el hi st T fin
    obtain rfl : i = n := by omega
    refine codeAny_builtin F.entry_set_update_loop ?_
    rw [Around.under_plainId F.plain_set_update_loop _]
    have full : xs.take i = xs := List.take_of_length_le (Nat.le_of_eq many.symm)
    rw [full] at T
    refine wpAny_bind (m := pyNext (.ref I)) (W.done s _ _ st fun s' mv => ?_)
    exact wpAny_pure (fin s' (mv.mono more) (T.keep fun o e => mv.heap a o aw e))
  | succ left ih =>
    intro i s el hi st T fin
    have lt : i < n := by omega
    refine codeAny_builtin F.entry_set_update_loop ?_
    rw [Around.under_plainId F.plain_set_update_loop _]
    refine wpAny_bind (m := pyNext (.ref I)) (W.item i s _ _ lt st fun v s' pv st' mv => ?_)
    obtain ⟨z, u, ez, rfl⟩ := val i v pv
    have T' : TxS w s'.heap a (uniq (xs.take i)) := T.keep fun o e => mv.heap a o aw e
    have up : xs.take (i + 1) = xs.take i ++ [z] := by rw [List.take_add_one, ez]; rfl
    have hl : (uniq (xs.take i)).length ≤ i := Nat.le_trans (uniq_ok _).2.1 (by rw [List.length_take]; omega)
    refine wpAny_bind (m := holding [Value.str z u] (setAdd a (.str z u))) (wpAny_holding ?_)
    unfold setAdd
    refine wpAny_holding (wpAny_bind ((strKind P w).pyHash (k := z) (strKind_is ..) ?_))
    refine txs_add (s := { s' with toks := s'.toks + 1 }) T' (by omega) fun h' sb T2 => ?_
    rw [← uniq_snoc, ← up] at T2
    have same : ∀ b, b ≠ a → h'.get? b = s'.heap.get? b := fun b hb => sb.2 b hb
    refine wpAny_pure ⟨plainId_quiet F.plain_set_update_loop _, ih (i + 1) _ (by omega) lt (W.frame _ s' _ _ st' (Nat.le_succ _) fun b hb o e => ?_) T2 fun s2 mv2 T3 => ?_⟩
    · exact (same b fun q => apart (q ▸ hb)).trans e
    · refine fin s2 (Moved.trans W.gtrans ((mv.mono more).then_heap (Nat.le_succ _) fun b o hb e => ?_) mv2) T3
      exact (same b fun q => hb (q ▸ .head _)).trans e
/-- a new set -/
abbrev nuSet (w : World) : Obj := { cls := .type "set", dict := none, data := .set #[] 0 (.fresh 0 0 (!w.params.followText "set-order")) }
theorem txs_nu {h : Heap} {a : Addr} (e : h.get? a = some (nuSet w)) : TxS w h a [] :=
  ⟨_, #[], 0, _, e, ⟨rfl, rfl, rfl⟩, rfl, (fun _ m => by simp at m), (by simp), .nil, (by decide), (by rfl), List.Pairwise.nil, by
    cases q : w.params.followText "set-order"
    · exact .inr rfl
    · exact .inl rfl⟩
end
section
variable {P : Program} {w : World} {A : Around} {E : Value → Shared → Prop} {s : Shared}
/-- set(l), l a list of texts -/
theorem txs_call {l : Addr} {its : Array Value} (xs : List Str) {Q : Value → Shared → Prop} (unh : A.handled = none) (hl : s.heap.IsList l its) (are : StrsAre its.toList xs) (small : xs.length + 1 < scanBound)
    (fin : ∀ (h' : Heap) (tk : Nat), TxS w h' s.heap.objs.size (uniq xs) → (∀ b o, s.heap.get? b = some o → h'.get? b = some o) → Q (.ref s.heap.objs.size) { s with heap := h', toks := tk }) :
    wpAny (model P w) A (call (.type "set") [.ref l]) Q E s := by
  have size : its.size = xs.length := by rw [← StrsAre.len_eq are, Array.length_toList]
  obtain ⟨cl, tl, mro⟩ := F.called_set.mro
  have f1 := F.called_set.made
  have f2 := F.called_set.sub
  refine wpAny_call (codeAny_of_tree ?_)
  show wpAny _ _ (callAny (.type "set") _) _ _ s
  refine wpAny_pure ⟨Code.quiet_builtin _ (by decide +kernel), codeAny_builtin F.entry_type_call ?_⟩
  rw [Around.under_plain (weight_type_call_type "set" [.ref l] []) rfl]
  have f3 := F.called_set.notType
  have f4 := F.called_set.canCreate
  have f5 := F.typeCall_set_1 (.ref l)
  repeat (any_goals (first | assumption | wp_step))
  refine codeAny_mono (code_set_led1 (.ref l) (E := E) (Q₁ := fun v s1 => v = .ref s.heap.objs.size ∧ s1 = { s with heap := s.heap.push (nuSet w) }) ⟨rfl, rfl⟩) fun r s1 post => ?_
  cases r with
  | error e => exact post
  | ok fl =>
    cases fl with
    | ret v =>
      obtain ⟨rfl, rfl⟩ := post
      have at0 : (s.heap.push (nuSet w)).get? s.heap.objs.size = some (nuSet w) := Heap.get?_push_size _ rfl
      have isSet : Shared.TypeIs { s with heap := s.heap.push (nuSet w) } (.ref s.heap.objs.size) "set" := ⟨_, at0, rfl⟩
      have f6 := F.called_set.init.lookup
      have f7 := F.called_set.init.bind (.ref s.heap.objs.size)
      repeat (any_goals (first | assumption | wp_step))
      refine codeAny_mono (codeAny_call_builtin (R := wants (fun r s2 => r = .none ∧ ∃ h' tk, s2 = { s with heap := h', toks := tk } ∧ TxS w h' s.heap.objs.size (uniq xs) ∧ ∀ b o, s.heap.get? b = some o → h'.get? b = some o) E) F.called_set.init.plain F.entry_set_init (check_set_init_1 isSet ?_)) fun r2 s2 post2 => ?_
      · obtain ⟨ol, hol, hcl, nl, hdl⟩ := hl
        obtain ⟨ocls, odict, odata, oslots⟩ := ol
        simp only at hcl hdl
        subst hcl; subst hdl
        have at1 : (s.heap.push (nuSet w)).get? l = some { cls := .type "list", dict := odict, data := .seq its nl, slots := oslots } := Heap.get?_push_of_some _ hol
        have f8 := F.sub_list_set
        have f9 := F.sub_list_frozenset
        have f10 : (Value.type "list" == Value.type "dict") = false := by decide
        have isL : (s.heap.push (nuSet w)).IsList l its := ⟨_, at1, rfl, nl, rfl⟩
        unfold Builtin.«set.__init__» noKeywords Builtin.Frozenset.updateFrom
        generalize gPI : pyIter = PI
        wp_walk
        subst gPI
        refine wpAny_pyIter_list isL (wpAny_bind (wpAny_runValue ?_))
        have lS : l < s.heap.objs.size := Heap.lt_size hol
        have unh3 : A.in1.in1.in1.handled = none := by simp [unh]
        have sz1 : (s.heap.push (nuSet w)).objs.size = s.heap.objs.size + 1 := Heap.size_push ..
        have ne1 : l ≠ (s.heap.push (nuSet w)).objs.size := by rw [sz1]; exact Nat.ne_of_lt (Nat.lt_succ_of_lt lS)
        have apart : s.heap.objs.size ∉ [(s.heap.push (nuSet w)).objs.size, l] := by
          rw [sz1]
          intro q
          rcases List.mem_cons.mp q with q | q
          · exact absurd q (Nat.ne_of_lt (Nat.lt_succ_self _))
          · exact absurd (List.mem_singleton.mp q).symm (Nat.ne_of_lt lS)
        have val : ∀ (i : Nat) (v : Value), its[i]? = some v → ∃ z u, xs[i]? = some z ∧ v = .str z u := fun i v hv => by
          obtain ⟨u, e⟩ := SS.strs_at are i v (by rw [Array.getElem?_toList]; exact hv)
          have hi : i < xs.length := by rw [← size]; exact (Array.getElem?_eq_some_iff.mp hv).1
          refine ⟨xs[i], u, List.getElem?_eq_getElem hi, ?_⟩
          rw [e, List.getD_eq_getElem?_getD, List.getElem?_eq_getElem hi]
          rfl
        refine txs_loop ((Walks.list unh3 _ l ne1 its).toS) s.heap.objs.size apart xs size small val (its.size - 0) 0 _ (by omega) (Nat.zero_le _) ⟨⟨_, Heap.get?_push_size _ rfl, rfl, rfl⟩, isL.push _⟩ (txs_nu (Heap.get?_push_of_some _ at0)) fun s' mv T => ?_
        obtain ⟨h', g', d', tk', os'⟩ := s'
        obtain rfl : g' = s.gens := mv.gens
        obtain rfl : d' = s.drawn := mv.drawn
        obtain rfl : os' = s.os := mv.os
        refine wpAny_pure (wpAny_pure ⟨rfl, h', tk', rfl, T, fun b o e => ?_⟩)
        have lt := Heap.lt_size e
        refine mv.heap b o (fun q => ?_) (Heap.get?_push_of_some _ (Heap.get?_push_of_some _ e))
        rcases List.mem_cons.mp q with q | q
        · exact absurd q (Nat.ne_of_lt lt)
        · exact absurd ((List.mem_singleton.mp q).trans sz1) (Nat.ne_of_lt (Nat.lt_succ_of_lt lt))
      · cases r2 with
        | error e => exact post2
        | ok fl2 =>
          cases fl2 with
          | ret r =>
            obtain ⟨rfl, h', tk, rfl, T, keep⟩ := post2
            repeat (any_goals (first | assumption | wp_step))
            exact fin _ _ T keep
          | _ => exact post2.elim
    | _ => exact post.elim
end
/-! ### sorted of it -/
section
variable {P : Program} {w : World} {A : Around} {E : Value → Shared → Prop} {s : Shared} {a : Addr} {L : List Str}
end
section
variable {X : Cx}
end
section
variable {G : Glob} {X : Cx} {O : XO} {e : Expr} {ka : Kd} {ca : Bool} {na : Nat} {fa : FE} {p p2 q pos : Pos}
end
end WL

/-! YT: {k: v}, one pair, the key of any kind. -/
namespace WL
open PySem PySem.Spec PyProof.Rows L2
section
variable {X : Cx}
end
def fDisp1 (fk fv : FE) : FE := fun ρ Kc => fk ρ fun ρ1 y => fv ρ1 fun ρ2 z => fitsP [] y = true ∧ Kc ρ2 (.dct [(y, z)])
section
variable {G : Glob} {X : Cx} {O : XO} {k v : Expr} {ca cb : Bool} {na nb : Nat} {fa fb : FE} {pos : Pos}
end
end WL

/-! YU: x, t = e, f: a container of one's own for x, any target t. -/
namespace WL
open PySem PySem.Spec PyProof.Rows L2
def fUnpO (i : Nat) (h : FG) (fa fb : FE) : FS := fun Ed ρ => fa ρ fun ρ1 d => fb ρ1 fun ρ2 y => ownOf d fun o => h y (ρ2.set i (some (.own o))) Ed.nx
section
variable {G : Glob} {X : Cx} {O : XO} {rk : Bool} {a b tg : Expr} {ca cb : Bool} {na nb : Nat} {fa fb : FE} {pos px pt pt2 : Pos} {x : Str} {kt k2 : Nat} {sl : List Nat} {h : FG}
end
end WL

/-! YV: dicts of plain values compared, any answer. -/
namespace WL
open PySem PySem.Spec PyProof.Rows L2
inductive HitV (K : PySem.W.Frag) (H : Hp) (ls : List (Key × V)) : List (Key × V) → Bool → Prop
  | nil : HitV K H ls [] true
  | miss {k : Key} {v : V} {r : List (Key × V)} : valV ls k = none → HitV K H ls ((k, v) :: r) false
  | hit {k : Key} {v u : V} {r : List (Key × V)} {d e : PyData} {b : Bool} : valV ls k = some u → Dp K H v d → Dp K H u e → SeqAt.shaped d = true → SeqAt.shaped e = true → HitV K H ls r b → HitV K H ls ((k, v) :: r) (PyData.eqv d e && b)
section
variable {X : Cx} {pins : List (Addr × Obj)} {σ : L2.St} {H : Hp} {s : Shared}
end
section
variable {G : Glob} {X : Cx} {O : XO}
end
end WL

/-! YW: x in a list or tuple of plain data. -/
namespace WL
open PySem PySem.Spec PyProof.Rows L2
mutual
theorem rd_det {h : Heap} : ∀ {v : Value} {d d' : PyData} {as as' : List Addr}, Reads h v d as → Reads h v d' as' → d = d'
  | _, _, _, _, _, .none, .none => rfl
  | _, _, _, _, _, .bool _, .bool _ => rfl
  | _, _, _, _, _, .int _ _, .int _ _ => rfl
  | _, _, _, _, _, .str _ _, .str _ _ => rfl
  | _, _, _, _, _, .list e c dt r, q => by
    cases q with
    | list e' c' dt' r' => rw [e] at e'; cases e'; rw [dt] at dt'; cases dt'; rw [rds_det r r']
    | tuple e' c' dt' r' => rw [e] at e'; cases e'; rw [c] at c'; simp at c'
    | dict e' c' dt' r' r2' => rw [e] at e'; cases e'; rw [c] at c'; simp at c'
  | _, _, _, _, _, .tuple e c dt r, q => by
    cases q with
    | list e' c' dt' r' => rw [e] at e'; cases e'; rw [c] at c'; simp at c'
    | tuple e' c' dt' r' => rw [e] at e'; cases e'; rw [dt] at dt'; cases dt'; rw [rds_det r r']
    | dict e' c' dt' r' r2' => rw [e] at e'; cases e'; rw [c] at c'; simp at c'
  | _, _, _, _, _, .dict (kvs := kvs) e c dt r r2, q => by
    cases q with
    | list e' c' dt' r' => rw [e] at e'; cases e'; rw [c] at c'; simp at c'
    | tuple e' c' dt' r' => rw [e] at e'; cases e'; rw [c] at c'; simp at c'
    | @dict _ _ _ _ kvs' _ _ e' c' dt' r' r2' =>
      rw [e] at e'; cases e'; rw [dt] at dt'; cases dt'
      have h1 := rds_det r r'
      have h2 := rds_det r2 r2'
      have : kvs = kvs' := by
        have e1 : kvs = (kvs.map (·.1)).zip (kvs.map (·.2)) := by rw [← List.unzip_fst, ← List.unzip_snd, List.zip_unzip]
        have e2 : kvs' = (kvs'.map (·.1)).zip (kvs'.map (·.2)) := by rw [← List.unzip_fst, ← List.unzip_snd, List.zip_unzip]
        rw [e1, e2, h1, h2]
      rw [this]
theorem rds_det {h : Heap} : ∀ {vs : List Value} {ds ds' : List PyData} {as as' : List Addr}, ReadsAll h vs ds as → ReadsAll h vs ds' as' → ds = ds'
  | _, _, _, _, _, .nil, .nil => rfl
  | _, _, _, _, _, .cons r t, .cons r' t' => by rw [rd_det r r', rds_det t t']
end
section
variable {X : Cx} {pins : List (Addr × Obj)} {σ : L2.St} {H : Hp} {s : Shared}
open Classical in
end
section
variable {G : Glob} {X : Cx} {O : XO}
end
end WL

/-! YX: dicts compared whose values are compared by a def of the text. -/
namespace WL
open PySem PySem.Spec PyProof.Rows L2
section
variable {prog : Program} {w : World} {K : Type} [DecidableEq K] {knd : KeyKind prog w K} {A : Around} {E : Value → Shared → Prop} {s : Shared}
open PySem.W in
open PySem.W in
end
section
variable {X : Cx} {k : Nat} {f C : Addr} {fd : FuncData} {ps : List Str} {sp : Sp} {pins : List (Addr × Obj)} {σ : L2.St} {H : Hp} {s : Shared}
abbrev xNone : XK := fun _ _ _ => False
/-- == of two instances by their class's own def, inside a builtin or not -/
theorem rcO_run {A : Around} (hm : Meth X.K C "__eq__" f) (F : FnG X.prog X.w X.K X.mg X.base k f fd ps sp) (hr : Room k A) (hfr : A.frames = X.A.frames) (hgd : A.guards = some []) (hb : Binds X.K fd ps []) (I : Inv X pins σ H s) {a b dx dy : Addr} {fs gs : List (Str × V)}
    (ha : H a = some (.ins C dx fs)) (hb2 : H b = some (.ins C dy gs)) {Q : VK} (h : sp [.ref a, .ref b] H Q xNone) :
    wpAny (model X.prog X.w) A (richCompare .Eq (.ref a) (.ref b)) (EP X pins σ Q) X.xe s := by
  obtain ⟨mA, J, _⟩ := ins_get I.hok ha
  obtain ⟨mB, J', _⟩ := ins_get I.hok hb2
  obtain ⟨od, J, _⟩ := J.look
  obtain ⟨od', J', _⟩ := J'.look
  obtain ⟨m, hF⟩ := I.fr
  refine PySem.W.cmp_K (op := .Eq) (tb := .ref C) hr.units0 hF I.ok.mod.kin J J'.type (by simp [PySem.W.notFirst]) hm.at_ hm.fn ?_
  have e0 : Env0 X.prog X.w X.K X.mg X.base A X.stack s H := by
    have e := I.env0
    exact ⟨by rw [hfr]; exact e.frames, e.mod, e.bs, e.bsz, e.funs, e.frf, e.hok, e.bare⟩
  have hl := F.len _ _ _ _ h
  have r2 : Vals [V.ref a, V.ref b] [Value.ref a, Value.ref b] := .cons rfl (.cons rfl .nil)
  refine wpAny_call (codeAny_mono (F.run A X.stack s H ⟨[.ref a, .ref b], []⟩ [.ref a, .ref b] [.ref a, .ref b] Q _ hr hgd e0 (by
    have := hb s [.ref a, .ref b] I.kIn (by simpa using hl)
    simpa using this) r2 h) fun r s' hq => ?_)
  match r, hq with
  | .error e, hq => exact passF (X := X) (σ := σ) pins H s e s' I hq
  | .ok (.ret u), hq =>
    obtain ⟨w, H', I', rw', q⟩ := I.after hq
    exact SlX.cmpback (P := EP X pins σ Q) rw' ⟨w, H', I', rw', q⟩
  | .ok .next, hq => exact hq.elim
  | .ok .brk, hq => exact hq.elim
  | .ok .cont, hq => exact hq.elim
/-- x == y, two instances of C -/
def rEqO (C : Addr) (sp : Sp) : R2 := fun x y H Q => ∃ a b dx dy fs gs, x = .ref a ∧ y = .ref b ∧ H a = some (.ins C dx fs) ∧ H b = some (.ins C dy gs) ∧ sp [x, y] H Q xNone
theorem op_eqO (hm : Meth X.K C "__eq__" f) (F : FnG X.prog X.w X.K X.mg X.base k f fd ps sp) (hr : Room k X.A) (hgd : X.A.guards = some []) (hb : Binds X.K fd ps []) : OpR X (compareOp .Eq) (rEqO C sp) := by
  intro pins s σ H x y v u Q I rx ry h
  obtain ⟨a, b, dx, dy, fs, gs, rfl, rfl, ha, hb2, h⟩ := h
  obtain rfl : v = Value.ref a := rx
  obtain rfl : u = Value.ref b := ry
  exact rcO_run hm F hr rfl hgd hb I ha hb2 h
end
section
variable {G : Glob} {X : Cx} {O : XO} {a b e : Expr} {ka kb : Kd} {ca cb : Bool} {na nb : Nat} {fa fb : FE} {pos p : Pos} {k j : Nat} {m : Spc} {cc : Nat}
def fEqO (cc : Nat) (m : Spc) (fa fb : FE) : FE := fun ρ Kc => fa ρ fun ρ1 x => fb ρ1 fun ρ2 y => (∃ fs, x = .ins cc fs) ∧ (∃ gs, y = .ins cc gs) ∧ m.pre [x, y] ∧ ∀ d, m.post [x, y] d → Kc ρ2 d
theorem e_eqO (F : Mt G X.prog X.w X.K X.mg X.base cc "__eq__" k false m []) (hr : Room j X.A) (hgd : X.A.guards = some []) (hk : k ≤ j) (ha : PDe G X O a .st ca na fa) (hb : PDe G X O b .st cb nb fb) (hm : behindInMarks .Eq b = false := by rfl) (hm2 : m.ar = 2 := by rfl) (hc0 : m.cost = 0 := by rfl) (hex : ∀ ds x, ¬ m.exc ds x := by exact fun _ _ z => z) :
    PDe G X O (.Compare a [.Eq] [b] pos) .st (ca && cb) (na + nb) (fEqO cc m fa fb) := by
  obtain ⟨C, f, fd, ps, ns, hF, hct, cl, mt, hbd, hl⟩ := F.plain
  obtain ⟨ta, pa, qa⟩ := ha.run
  obtain ⟨tb, pb, qb⟩ := hb.run
  refine ⟨_, pe_cmpR (op_eqO mt hF (hr.mono hk) hgd hbd) pa pb hm, fun B S H σ ρ Kc Q I hbT hf hq => ?_⟩
  refine qa B S H σ ρ _ _ I (by omega) hf fun v H1 S1 ρ1 x I1 m1 c1 r1 h1 => ?_
  refine qb B S1 H1 σ ρ1 _ _ I1 (by have := m1.lo; omega) h1 fun w H2 S2 ρ2 y I2 m2 c2 r2 h2 => ?_
  have r1' : Den G X.K S2 v x := Den.mono m2 r1
  obtain ⟨⟨fs, rfl⟩, ⟨gs, rfl⟩, hp, hpost⟩ := h2
  obtain ⟨a', C', dx, vs, ns', rfl, hS, hct'⟩ := ins_den r1'
  rw [hct] at hct'; cases hct'
  obtain ⟨b', C', dy, ws, ns', rfl, hS2, hct'⟩ := ins_den r2
  rw [hct] at hct'; cases hct'
  exact ⟨a', b', dx, dy, vs, ws, rfl, rfl, I2.le _ _ hS, I2.le _ _ hS2, callO (by rw [hl, hm2]; rfl) I2 (by have := m1.lo; have := m2.lo; omega) hc0 hex (.cons r1' (.cons r2 .nil)) hp hpost fun z H3 S3 d I3 m3 r3 h3 => hq z H3 S3 ρ2 d I3 ((m1.trans m2).t0 m3) (fun z => by
    have := Bool.and_eq_true_iff.mp z
    rw [c2 this.2, c1 this.1]) r3 h3⟩
end
end WL

/-! YZ: products of wide numbers. -/
namespace WL
open PySem PySem.Spec PyProof.Rows L2
section
variable {G : Glob} {X : Cx} {O : XO}
abbrev opMulV := opI CMulW fun i j => .int (i * j)
end
end WL

/-! ZA: try: .. except x as n: ..; behind it the error is a value. -/
namespace WL
open PySem PySem.Spec PyProof.Rows L2
/-- an object that is there from now on told -/
theorem inv_track {X : Cx} {pins : List (Addr × Obj)} {σ : L2.St} {H : Hp} {s : Shared} {q : Addr} {u : HO} (I : Inv X pins σ H s) (nq : H q = none) (ql : q ≠ X.env.locals) (qc : ∀ x c, X.env.cells.lookup x = some c → c ≠ q)
    (qp : ∀ p ∈ X.pn ++ pins, p.1 ≠ q) (q0 : ∀ o, X.s_0.heap.get? q = some o → q ∈ X.ex) (ok : ObjOk X.prog X.w (upd H q u) s.heap q u) : Inv X pins σ (upd H q u) s where
  ok := I.ok
  os := I.os
  bare := I.bare
  base := {
    keep := I.base.keep
    slot := I.base.slot
    free := fun b o e n x => by
      rw [upd_ne (fun z => x (by rw [z] at e ⊢; exact q0 o e))]
      exact I.base.free b o e n x
    there := I.base.there
    tups := fun b xs e => by rw [upd_ne (ne_of_none (I.base.tups b xs e) nq)]; exact I.base.tups b xs e
    frzs := fun b o xs e => by rw [upd_ne (ne_of_none (I.base.frzs b o xs e) nq)]; exact I.base.frzs b o xs e
    tbls := fun b ps e => by
      obtain ⟨more, z⟩ := I.base.tbls b ps e
      exact ⟨more, by rw [upd_ne (ne_of_none z nq)]; exact z⟩ }
  loc := I.loc
  cell := I.cell
  free := by rw [upd_ne (Ne.symm ql)]; exact I.free
  freeC := fun x c e => by rw [upd_ne (qc x c e)]; exact I.freeC x c e
  pin := fun p hp => by
    obtain ⟨a1, a2, a3⟩ := I.pin p hp
    exact ⟨a1, by rw [upd_ne (qp p hp)]; exact a2, a3⟩
  hok := HOk.laidN I.hok (fun _ _ e => e) nq ok
  len := I.len
/-- what is wished of an exception of the body -/
def wKeep (K : PySem.W.Frag) (c : Value) (i : Nat) (ts : TS) (D : Ends) : WX := fun cls d σ H =>
  PySem.W.exmOne K cls c = some true ∧ ∀ e, H e = none → ts { nx := fun σ' H' => H' e = none → D.nx (σ'.set i none) (upd H' e (exR e cls d)), rt := fun _ _ => False, bk := fun _ _ => False, ct := fun _ _ => False } (σ.set i (some (.ref e))) H
section
variable {X : Cx} {x n : Str} {c : Value} {i : Nat} {body suite : List Stmt} {b0 : Stmt} {p1 p2 p3 : Pos} {tb : WX → TS} {ts : TS} {W0 : WX}
theorem ps_try_keep (hs : X.stack = X.env :: X.outer) (hf : X.env.frame = some X.env.locals) (hN : X.N.Nodup) (hi : X.N[i]? = some n) (hl : X.env.kindOf n = some .local) (hc : Names X x c)
    (hb : ∀ (W : WX) (pn : List (Addr × Obj)) (xe : Value → Shared → Prop), Takes (X.tr pn xe) W → PassesOwn (model X.prog X.w) X.A X.env xe → PSs (X.tr pn xe) body (tb W))
    (hsu : ∀ (e : Addr) (oe : Obj) (pn : List (Addr × Obj)), PSs (X.suite e ((e, oe) :: pn)) (b0 :: suite) ts) :
    PS X (.Try body [.ExceptHandler (some (.Name x p1)) (some n) (b0 :: suite) p2] [] [] p3) (fun D σ H => tb (wKeep X.K c i ts D) D σ H) := by
  refine ⟨fun pins s σ H D I read => ?_⟩
  have okX := I.ok
  have frX : X.A.frames = some (X.env :: X.outer) := by rw [okX.frames, hs]
  have lcl : Loc X.env.scope n := .inl hl
  let handle : Value → Shared → Prop := fun e s1 => wpAny (model X.prog X.w) X.A (noteFrame e X.env) (fun _ s2 => wpAny (model X.prog X.w) X.A (setFlight e none) (fun _ s3 =>
    wpAny (model X.prog X.w) X.A (handleBy e X.env [.ExceptHandler (some (.Name x p1)) (some n) (b0 :: suite) p2]) (SP X pins D) X.xe s3) X.xe s2) X.xe s1
  have takes : Takes (X.tr (X.pn ++ pins) handle) (wKeep X.K c i ts D) := by
    rintro u s' ⟨e, B, sI, pins', σ', H', cls, d, rfl, J0, grd, up, sky, fresh, os, bare, isC, wish⟩
    have J : Inv X pins σ' H' sI := J0.ofTry okX
    have pinF : ∀ p ∈ X.pn ++ pins, sI.heap.get? p.1 = some p.2 ∧ p.1 ∉ frs X.stack := fun p hp => by
      obtain ⟨a1, _, a3, a4, _⟩ := J.pin p hp
      refine ⟨a1, fun hm => ?_⟩
      rw [hs] at hm
      obtain ⟨y, hy, hz⟩ := List.mem_filterMap.mp hm
      rcases List.mem_cons.mp hy with e1 | e1
      · rw [e1, hf] at hz; exact a3 (Option.some.inj hz).symm
      · exact a4 (List.mem_filterMap.mpr ⟨y, e1, hz⟩)
    have sky1 : Sky B (X.env :: X.outer) e (Zc cls d) X.env.locals s'.heap := by rw [← hs]; exact sky
    show wpAny (model X.prog X.w) X.A (noteFrame (.ref e) X.env) _ _ _
    refine Sky.land Zc.steady frX hf sky1 fun h3 fly3 up3 => ?_
    have J3 : Inv X pins σ' H' { s' with heap := h3 } := J.landed grd fly3.1 (up.trans up3) os bare
    obtain ⟨o3, v3, g3, z3, d3⟩ := fly3.there
    have out : e ∉ frs (X.env :: X.outer) := fun hm => by
      obtain ⟨_, o', g', nf⟩ := fly3.2.2.1.mem hm
      rw [g3] at g'; cases g'
      exact nf _ d3
    have nl : e ≠ X.env.locals := fun z => out (List.mem_filterMap.mpr ⟨X.env, List.mem_cons_self, by rw [hf, z]⟩)
    have nf : e ∉ X.fs := fun hm => by
      obtain ⟨y, hy, hz⟩ := List.mem_filterMap.mp hm
      exact out (List.mem_filterMap.mpr ⟨y, List.mem_cons_of_mem _ hy, hz⟩)
    have noB : ∀ o, B.get? e ≠ some o := fun o z => by rw [fly3.2.1] at z; cases z
    have new0 : ∀ o, X.s_0.heap.get? e = some o → e ∈ X.ex := fun o z => Classical.byContradiction fun ne => by
      obtain ⟨o', z'⟩ := J.base.there e o z ne
      exact noB o' (grd e o' z' (by rw [hs]; exact out))
    have newP : ∀ p ∈ X.pn ++ pins, p.1 ≠ e := fun p hp z => by
      obtain ⟨g, nn⟩ := pinF p hp
      rw [z] at g nn
      exact noB _ (grd e _ g nn)
    have S3 := J3.suite g3 d3 fresh nl nf
    refine wpAny_handleBy_cons (codeAny_handlers_test ?_) (by intro z; cases z)
    have lookT : PySem.W.Looks (model X.prog X.w) h3 (typeOf (.ref e)) cls := fun A Q E s k r => wpAny_typeOf_ref (k _ _ g3) (by rw [z3.1]; exact r)
    have lookM := PySem.W.exm_one (M := model X.prog X.w) (J3.kIn) lookT isC
    have named : ∀ {Q E : Value → Shared → Prop}, Q c { s' with heap := h3 } → wpAny (model X.prog X.w) (X.A.mark (some (.ref e))) (eval (.Name x p1) X.env) Q E { s' with heap := h3 } := fun {Q E} r => by
      obtain ⟨hg, db, hm | ⟨hm, hv, hn⟩⟩ := hc
      · exact ld_glob (X := X.suite e ((e, o3) :: (X.pn ++ pins))) S3 hg hm r db
      · exact ld_blt (X := X.suite e ((e, o3) :: (X.pn ++ pins))) S3 hg hm hv r hn db
    refine named (lookM.here ?_)
    refine codeAny_handlers_suite_as ?_
    refine HandSPX.lands_againZ fly3 fun h4 fly4 up4 => ?_
    have J4 : Inv X pins σ' H' { s' with heap := h4 } := J.landed grd fly4.1 ((up.trans up3).trans up4) os bare
    obtain ⟨o4, v4, g4, z4, d4⟩ := fly4.there
    have S4 := J4.suite g4 d4 fresh nl nf
    refine store_ok (X := X.suite e ((e, o4) :: (X.pn ++ pins))) (v := .ref e) S4 hN hi lcl rfl (fun s5 S5 => ?_) (.inr hl)
    refine wpAny_mono ((hsu e o4 (X.pn ++ pins)).run [] s5 _ H' _ S5 (wish e fresh)) (fun fl s6 done => ?_) (fun _ _ z => False.elim z)
    cases fl with
    | next =>
      obtain ⟨σ6, H6, S6, q6⟩ := done
      refine gone_ok (X := X.suite e ((e, o4) :: (X.pn ++ pins))) S6 hN hi hl fun s7 S7 => ?_
      obtain ⟨g7, n7, _⟩ := S7.pin (e, o4) (List.mem_append_left _ List.mem_cons_self)
      have J7 := S7.unsuite okX
      have nc : ∀ y k, X.env.cells.lookup y = some k → k ≠ e := fun y k hk z => by
        obtain ⟨v, o', g', dc⟩ := J7.cell y k hk
        rw [z, g7] at g'; cases g'
        rw [d4] at dc; cases dc
      exact ⟨_, _, inv_track J7 n7 nl nc newP new0 (exR_ok g7 z4 d4), q6 n7⟩
    | brk => obtain ⟨_, _, _, z⟩ := done; exact z.elim
    | cont => obtain ⟨_, _, _, z⟩ := done; exact z.elim
    | ret u => obtain ⟨_, _, _, _, _, z⟩ := done; exact z.elim
  refine wpAny_Try_except (wpAny_mono ((hb (wKeep X.K c i ts D) (X.pn ++ pins) handle takes PassesOwn.looking).run [] s σ H D (I.toTry _) read) (fun fl s1 done => ?_) fun _ _ z => z)
  cases fl with
  | next =>
    obtain ⟨σ', H', J, q⟩ := done
    exact wpAny_execs_nil ⟨σ', H', J.ofTry okX, q⟩
  | brk =>
    obtain ⟨σ', H', J, q⟩ := done
    exact ⟨σ', H', J.ofTry okX, q⟩
  | cont =>
    obtain ⟨σ', H', J, q⟩ := done
    exact ⟨σ', H', J.ofTry okX, q⟩
  | ret u =>
    obtain ⟨v, σ', H', J, r, q⟩ := done
    exact ⟨v, σ', H', J.ofTry okX, r, q⟩
end
end WL

/-! ZB: the def that calls what it got and returns the error, or None. -/
namespace WL
open PySem PySem.Spec PyProof.Rows L2 LamX
/-- what the caller reads: the error, or None -/
def TTc (K : PySem.W.Frag) (CS : Addr) : (XK → Hp → VK → Prop) → Hp → VK → Prop := fun tl H Q =>
  tl (fun cls d H' => PySem.W.exmOne K cls (.ref CS) = some true ∧ ∀ e, H' e = none → Q (.ref e) (upd H' e (exR e cls d))) H fun _ H' => Q .non H'
theorem takes_len {X : Cx} {W : WX} (t : Takes X W) : Takes X (fun cls d σ H => σ.length = X.N.length → W cls d σ H) := fun u s' ⟨e, B, sI, pins, σ, H, cls, d, h1, h2, h3, h4, h5, h6, h7, h8, h9⟩ =>
  t u s' ⟨e, B, sI, pins, σ, H, cls, d, h1, h2, h3, h4, h5, h6, h7, h8, h9 h2.len⟩
section
variable {X : Cx}
theorem caught_gives {x a ch er b q : Str} {sg : Scope} {g CS : Addr} {cdg : Value} {j : Nat} {p0 p1 p2 p3 p4 p5 p6 p7 p8 p9 p10 p11 p12 p13 : Pos} (hN : [a, ch, er].Nodup) (hge : sg.names.lookup b = some .globalImplicit) (hme : X.mg b = some (.ref CS)) (hde : (b == ("__debug__" : Str)) = false)
    (h1 : sg.names.lookup ch = some .local) (h2 : sg.names.lookup er = some .local) (hd1 : (ch == ("__debug__" : Str)) = false) (hc1 : (ch == ("__classdict__" : Str)) = false) (hd2 : (er == ("__debug__" : Str)) = false) (hc2 : (er == ("__classdict__" : Str)) = false) :
    GivesTo X [a, ch, er] x sg g cdg [.Assign [.Name ch p0] (.Constant .none j p1) p2, .Try [.Expr (.Call (.Name a p3) [] [] p4) p5] [.ExceptHandler (some (.Name b p6)) (some er) [.Assign [.Name ch p7] (.Name er p8) p9] p10] [] [] p11, .Return (some (.Name ch p12)) p13] a q (TTc X.K CS) := by
  intro f c' s H Q tl act hc h
  have hgl : Gl (cxOf C8.CX0 X.prog X.w X.K X.mg X.base [a, ch, er] x sg g cdg X.A X.stack s H C8.E0).nox b := hge
  refine ⟨_, pss_cons (ps_set (i := 1) hN rfl (.inl h1) pe_non (by rfl) (.inl rfl)) (pss_cons (ps_try_keep (X := (cxOf C8.CX0 X.prog X.w X.K X.mg X.base [a, ch, er] x sg g cdg X.A X.stack s H C8.E0).nox) (c := .ref CS) (i := 2) (ts := tAsg (tVar 2) (gName 1))
      (tb := fun W D σ H => σ[0]? = some (some (.ref f)) ∧ H c' = some (CodeO c' q) ∧ ∃ Ech : XK, (∀ cls d σ' H', σ'.length = 3 → Ech cls d H' → W cls d σ' H') ∧ tl Ech H fun _ H' => D.nx σ H')
      rfl rfl hN rfl h2 ⟨hgl, hde, .inl hme⟩ (fun W pn xe tk _ => ?_) (fun e oe pn => pss_one (ps_set hN rfl (.inl h1) (pe_var rfl (.inl h2) hd2 hc2) (by rfl) (.inl rfl)))) (pss_one (ps_ret (pe_var (i := 1) rfl (.inl h1) hd1 hc1)))), ?_⟩
  · refine ⟨fun pins s' σ H' D I h' => ?_⟩
    obtain ⟨e1, e2, Ech, hW, e3⟩ := h'
    have hp := act (fun cls d σ H => σ.length = 3 → W cls d σ H) pn xe Ech p3 p4 (takes_len tk) fun cls d σ' H' hE hl => hW cls d σ' H' hl hE
    exact (pss_one (ps_expr (pos := p5) hp)).run pins s' σ H' D I ⟨e1, e2, e3⟩
  · refine ⟨rfl, hc, fun cls d H' => PySem.W.exmOne X.K cls (.ref CS) = some true ∧ ∀ e, H' e = none → Q (.ref e) (upd H' e (exR e cls d)), fun cls d σ' H' hl hE => ⟨hE.1, fun e he => ?_⟩, ?_⟩
    · obtain ⟨u0, u1, u2, rfl⟩ : ∃ u0 u1 u2, σ' = [u0, u1, u2] := by
        match σ', hl with
        | [u0, u1, u2], _ => exact ⟨u0, u1, u2, rfl⟩
      exact ⟨.ref e, rfl, fun _ => ⟨.ref e, rfl, hE.2 e he⟩⟩
    · have e : (fun (_ : V) (H' : Hp) => tRet (tVar 1) { nx := fun _ H' => Q .non H', rt := Q } (List.set (L2.start [a, ch, er] [V.ref f]) 1 (some V.non)) H') = fun _ H' => Q .non H' := by
        funext _ H'
        exact propext ⟨fun ⟨v, e1, e2⟩ => by cases e1; exact e2, fun z => ⟨.non, rfl, z⟩⟩
      exact e ▸ h
end
end WL

/-! ZC: a lambda without parameters is made and handed to a def; nothing that was told goes. -/
namespace WL
open PySem PySem.Spec PyProof.Rows L2 LamX
/-- behind the making of a lambda: tables grow, all else is as it was -/
structure Grew (T : List (Addr × Str)) (H H1 : Hp) : Prop where
  ext : ExtN H H1
  dom : ∀ b, H b ≠ none → H1 b ≠ none
  tabs : Tabs T H1
section
variable {X : Cx} {pins : List (Addr × Obj)} {σ : L2.St} {H : Hp} {s : Shared}
theorem lam_made {T : List (Addr × Str)} {c P : Addr} {params : Arguments} {body : Expr} {scope : Scope} {pos : Pos} {E : Value → Shared → Prop} {Q : Value → Shared → Prop} (I : Inv X pins σ H s) (tb : TabB X.base X.mg c P) (code : X.env.code = .ref c)
    (inT : (P, X.env.qual ++ "<lambda>") ∈ T) (uniq : ∀ p ∈ T, p.1 = P → p.2 = X.env.qual ++ "<lambda>") (tabs : Tabs T H) (nodef : defaultsOf params X.env = ([], [])) (free : ∀ y ∈ scope.names, y.2 = .free → ∃ c, X.env.cells.lookup y.1 = some c)
    (go : ∀ (f k : Addr) (pm ct : Value) (H1 : Hp) (s' : Shared), Inv X pins σ H1 s' → Grew T H H1 →
      s'.heap.get? f = some (PySem.W.kla_obj "<lambda>" (X.env.qual ++ "<lambda>") params body scope (cloFrom X.env.cells scope.names []) pm k ct) → H1 f = none → f ∉ frs X.stack → H1 k = some (CodeO k (X.env.qual ++ "<lambda>")) → s.heap.objs.size ≤ f → Q (.ref f) s') :
    wpAny (model X.prog X.w) X.A (eval (.Lambda params body scope pos) X.env) Q E s := by
  obtain ⟨ps, atP, trip, each⟩ := tabs _ inT
  have objP : s.heap.get? P = some { cls := .none, data := .fields ps } := I.hok P _ atP
  have bmP := tb.bm.keeps I.bk
  have codeP := tb.code.keeps I.bk
  have globs := I.mod.glob.keeps I.bk
  have away : ∀ f, s.heap.objs.size ≤ f → f ∉ frs X.stack := fun f big hm => (List.mem_cons.mp (I.stkSub _ hm)).elim
    (fun e => absurd I.lt (by rw [← e]; exact Nat.not_lt.mpr big)) fun e => I.nofs big e
  refine PySem.W.kla_eval nodef ?_
  by_cases seen : ∃ cv, codeAmong pos ps.toList = some cv
  · obtain ⟨cv, hcv⟩ := seen
    obtain ⟨k, rfl, hk⟩ := each pos cv hcv
    refine PySem.W.kla_makeFunctionHit (mg := X.mg) (c := c) (P := P) (ps := ps) (closure_ok free) I.ok.glob globs code codeP objP trip hcv bmP fun ct h' tk grow size => ?_
    have I1 : Inv X pins σ H { s with heap := h'.push (PySem.W.kla_obj "<lambda>" (X.env.qual ++ "<lambda>") params body scope (cloFrom X.env.cells scope.names []) ((X.mg "__name__").getD .none) k ct), toks := tk } :=
      I.kept fun b o e => Heap.get?_push_of_some _ (grow b o e)
    exact go h'.objs.size k _ ct H _ I1 ⟨ExtN.refl H, fun _ z => z, tabs⟩ (Heap.get?_push_size _ rfl) (I.hok.fresh size) (away _ size) hk size
  · have nocv : codeAmong pos ps.toList = none := by
      cases e : codeAmong pos ps.toList with
      | none => rfl
      | some cv => exact absurd ⟨cv, e⟩ seen
    refine PySem.W.kla_makeFunction (mg := X.mg) (c := c) (P := P) (ps := ps) (closure_ok free) I.ok.glob globs code codeP objP trip nocv tb.gP bmP fun k ct h' tk grow ge lt rec_ tab => ?_
    obtain ⟨k2, oc, vs, t, ek, ho, hd, hv⟩ := rec_
    cases ek
    have big : s.heap.objs.size ≤ h'.objs.size := Nat.le_trans ge (Nat.le_of_lt lt)
    have newK : H k = none := I.hok.fresh ge
    have kP : P ≠ k := ne_of_none atP newK
    have I1 := inv_table (t' := tk) (more := #[rawInt pos.line, rawInt pos.col, .ref k]) (h' := h'.push (PySem.W.kla_obj "<lambda>" (X.env.qual ++ "<lambda>") params body scope (cloFrom X.env.cells scope.names []) ((X.mg "__name__").getD .none) k ct)) I atP
      (fun b o hb e => Heap.get?_push_of_some _ (grow b o hb e)) (Heap.get?_push_of_some _ tab) ge ⟨oc, vs, t, Heap.get?_push_of_some _ ho, hd, hv⟩
    generalize hH1 : upd (upd H P (.tbl (ps ++ #[rawInt pos.line, rawInt pos.col, .ref k]))) k (CodeO k (X.env.qual ++ "<lambda>")) = H1 at I1
    have atK : H1 k = some (CodeO k (X.env.qual ++ "<lambda>")) := by rw [← hH1]; exact upd_same
    have atP1 : H1 P = some (.tbl (ps ++ #[rawInt pos.line, rawInt pos.col, .ref k])) := by rw [← hH1, upd_ne kP]; exact upd_same
    have other : ∀ b, b ≠ P → b ≠ k → H1 b = H b := fun b h1 h2 => by rw [← hH1, upd_ne h2, upd_ne h1]
    have ext : ExtN H H1 := fun b o e n => by
      rw [other b (fun z => n ps (by rw [z, atP] at e; exact (Option.some.inj e).symm)) (ne_of_none e newK)]
      exact e
    have listE : (ps ++ #[rawInt pos.line, rawInt pos.col, .ref k]).toList = ps.toList ++ [rawInt pos.line, rawInt pos.col, .ref k] := by simp
    refine go h'.objs.size k _ ct H1 _ I1 ⟨ext, fun b z => ?_, fun p hp => ?_⟩ (Heap.get?_push_size _ rfl) ?_ (away _ big) atK big
    · by_cases h1 : b = P
      · rw [h1, atP1]; exact fun z => nomatch z
      · by_cases h2 : b = k
        · rw [h2, newK] at z; exact absurd rfl z
        · rw [other b h1 h2]; exact z
    · by_cases hb : p.1 = P
      · rw [uniq p hp hb, hb]
        refine ⟨_, atP1, by rw [listE]; exact PySem.TriplesOk_snoc _ _ _ _ trip, fun pos' cv hcv => ?_⟩
        rw [listE] at hcv
        rcases among_app _ trip hcv with z | z
        · obtain ⟨k0, e1, e2⟩ := each pos' cv z
          exact ⟨k0, e1, ext _ _ e2 codeO_ne⟩
        · exact ⟨k, z, atK⟩
      · obtain ⟨ps', a1, a2, a3⟩ := tabs p hp
        refine ⟨ps', by rw [other _ hb (ne_of_none a1 newK)]; exact a1, a2, fun pos' cv hcv => ?_⟩
        obtain ⟨k0, e1, e2⟩ := a3 pos' cv hcv
        exact ⟨k0, e1, ext _ _ e2 codeO_ne⟩
    · rw [other _ (Nat.ne_of_gt (Nat.lt_of_lt_of_le (Heap.lt_size objP) big)) (Nat.ne_of_gt lt)]
      exact I.hok.fresh big
end
section
variable {X : Cx} {pins : List (Addr × Obj)} {σ : L2.St} {H H0 : Hp} {s s0 : Shared}
end
section
variable {X : Cx}
end
end WL

/-! ZD: the end of a law whose defs make lambdas: tables of code objects, empty at first. -/
namespace WL
open PySem PySem.Spec PyProof.Rows L2 LamX
/-- a code object, its table, the name of what is made of it -/
abbrev Mkr : Type := Addr × Addr × Str
def tabsM (cs : List Mkr) : List (Addr × Str) := cs.map fun p => (p.2.1, p.2.2)
open Classical in
noncomputable def scrT (K : PySem.W.Frag) (a : Addr) (ob : Obj) (ns : List Int) (T : List (Addr × Str)) : Hp := fun b => if b = a ∧ K.lookup a = none then some (.frz ob (.lst (ns.map V.int))) else if isTb T b then some (.tbl #[]) else none
section
variable {K : PySem.W.Frag} {a : Addr} {ob : Obj} {ns : List Int} {T : List (Addr × Str)}
theorem scrT_a (h : K.lookup a = none) : scrT K a ob ns T a = some (.frz ob (.lst (ns.map V.int))) := if_pos ⟨rfl, h⟩
theorem scrT_tb {b : Addr} (hb : b ≠ a) (h : isTb T b) : scrT K a ob ns T b = some (.tbl #[]) := by
  unfold scrT
  rw [if_neg fun z => hb z.1, if_pos h]
theorem scrT_cases (b : Addr) : scrT K a ob ns T b = none ∨ (b = a ∧ K.lookup a = none ∧ scrT K a ob ns T b = some (.frz ob (.lst (ns.map V.int)))) ∨ (isTb T b ∧ scrT K a ob ns T b = some (.tbl #[])) := by
  unfold scrT
  by_cases h : b = a ∧ K.lookup a = none
  · rw [if_pos h]; exact .inr (.inl ⟨h.1, h.2, rfl⟩)
  · rw [if_neg h]
    by_cases h2 : isTb T b
    · rw [if_pos h2]; exact .inr (.inr ⟨h2, rfl⟩)
    · rw [if_neg h2]; exact .inl rfl
end
theorem law_callGT {P : Program} {w : World} {K : PySem.W.Frag} {mg mb : Str → Option Value} {k : Nat} {fa a : Addr} {fd : FuncData} {x : Str} {sp : Sp} {s : Shared} {vs : List Value} {ns : List Int} {cs : List Mkr}
    (inK : K.In s.heap) (gl : s.heap.Ns mainGlobals mg) (bl : s.heap.Ns builtinsNs mb) (bv : ∀ y : Str, y ≠ "__name__" → mb y = bootBuiltins y) (nl : s.heap.NoLimit) (ge : s.gens = #[])
    (tabs : ∀ p ∈ cs, s.heap.get? p.2.1 = some { cls := .none, data := .fields #[] }) (out : ∀ p ∈ cs, K.lookup p.2.1 = none) (heads : ∀ p ∈ cs, PySem.W.CodeHd s.heap p.1 p.2.1)
    (bm : ∃ (bm : Addr) (ob : Obj), mg "__builtins__" = some (.ref bm) ∧ bm ≠ builtinsNs ∧ s.heap.get? bm = some ob ∧ ob.cls = .type "module" ∧ ob.dict = some builtinsNs ∧ ob.data = .plain)
    (oa : s.heap.get? a = some { cls := .type "list", data := .seq vs.toArray }) (ia : IntsAre vs ns) (few : ns.length ≤ sizeLine) (room : Room k callerA)
    (F : ∀ base : Heap, K.In base → base.Ns mainGlobals mg → (∀ p ∈ cs, TabB base mg p.1 p.2.1) → FnG P w K mg base k fa fd [x] sp) (bd : ∀ (s : Shared) (u : Value), BindsTo s fd ⟨[u], []⟩ [(x, u)])
    (asks : ∀ H : Hp, OnlyT (tabsM cs) H → SqL K H a (ns.map V.int) → sp [.ref a] H (fun v _ => v = .bl true) fun _ _ _ => False) :
    codeAny (model P w) callerA (.call (.ref fa) ⟨[.ref a], []⟩) (fun r s' => r = .ok (.ret (.bool true)) ∧ OldK s.heap s'.heap ∧ s'.os = s.os ∧ AllBare s'.gens) s := by
  let ob : Obj := { cls := .type "list", data := .seq vs.toArray }
  let H := scrT K a ob ns (tabsM cs)
  have cases_ : ∀ b, H b = none ∨ (b = a ∧ K.lookup a = none ∧ H b = some (.frz ob (.lst (ns.map V.int)))) ∨ (isTb (tabsM cs) b ∧ H b = some (.tbl #[])) := scrT_cases
  have isT : ∀ {b}, isTb (tabsM cs) b → ∃ p ∈ cs, p.2.1 = b := fun {b} ⟨q, hq⟩ => by
    obtain ⟨p, hp, e⟩ := List.mem_map.mp hq
    exact ⟨p, hp, congrArg Prod.fst e⟩
  have tbO : ∀ {b}, isTb (tabsM cs) b → s.heap.get? b = some { cls := .none, data := .fields #[] } := fun {b} hb => by
    obtain ⟨p, hp, rfl⟩ := isT hb
    exact tabs p hp
  have aNot : ¬ isTb (tabsM cs) a := fun z => by
    have e := tbO z
    rw [oa] at e
    have e2 : Data.seq vs.toArray _ = Data.fields #[] := congrArg Obj.data (Option.some.inj e)
    cases e2
  have atT : ∀ p ∈ cs, H p.2.1 = some (.tbl #[]) := fun p hp => by
    have hb : isTb (tabsM cs) p.2.1 := ⟨p.2.2, List.mem_map.mpr ⟨p, hp, rfl⟩⟩
    exact scrT_tb (fun z => aNot (by rw [← z]; exact hb)) hb
  have only : OnlyT (tabsM cs) H := ⟨fun b => by
    rcases cases_ b with e | ⟨_, _, e⟩ | ⟨h, e⟩
    · exact .inl e
    · exact .inr (.inr ⟨_, _, e⟩)
    · exact .inr (.inl ⟨e, h⟩), fun q hq => by
    obtain ⟨p, hp, rfl⟩ := List.mem_map.mp hq
    exact atT p hp⟩
  have rv := vals_ints ia
  have len := ia.length
  have seq : SqL K H a (ns.map V.int) := by
    cases q : K.lookup a with
    | none => exact .inl (.inr ⟨ob, scrT_a q⟩)
    | some o =>
      have e := inK a o q
      rw [oa] at e
      cases e
      exact .inr ⟨_, vs.toArray, _, q, rfl, rfl, rfl, by rw [List.size_toArray, len]; exact few, by simpa using rv⟩
  have hok : HOk P w H s.heap := fun b u z => by
    rcases cases_ b with e | ⟨e, _, e2⟩ | ⟨h, e2⟩
    · rw [show H b = none from e] at z; cases z
    · rw [show H b = _ from e2] at z
      cases z
      subst e
      exact ⟨oa, by rw [List.length_map]; exact few, vs, _, rv, oa⟩
    · rw [show H b = _ from e2] at z
      cases z
      exact tbO h
  have hid : ∀ {b : Addr} {o : Obj}, s.heap.get? b = some o → (b = a → ∃ o', K.lookup a = some o') → o ≠ { cls := .none, data := .fields #[] } → (hidT s.heap H).get? b = some o := fun {b o} e nb ne => by
    refine hidT_get e ?_
    rcases cases_ b with z | ⟨z, n, _⟩ | ⟨z, _⟩
    · exact z
    · obtain ⟨o', h⟩ := nb z
      rw [h] at n; cases n
    · rw [tbO z] at e
      exact absurd (Option.some.inj e).symm ne
  have notA : ∀ {b : Addr} {o : Obj}, s.heap.get? b = some o → (∀ m n, o.data ≠ .seq m n) → b = a → ∃ o', K.lookup a = some o' := fun {b o} e d z => by
    rw [z, oa] at e
    cases e
    exact absurd rfl (d _ _)
  have nsH : ∀ {b : Addr} {m : Str → Option Value}, s.heap.Ns b m → (hidT s.heap H).Ns b m := fun {b m} ⟨o, es, ep, e, d, r⟩ => ⟨o, es, ep, hid e (notA e fun m n z => by rw [d] at z; cases z) (fun z => by rw [z] at d; cases d), d, r⟩
  have inB : K.In (hidT s.heap H) := fun b o e => by
    refine hidT_get (inK b o e) ?_
    rcases cases_ b with z | ⟨z, n, _⟩ | ⟨z, _⟩
    · exact z
    · rw [z, n] at e; cases e
    · obtain ⟨p, hp, rfl⟩ := isT z
      rw [out p hp] at e; cases e
  have md : Mod K mg (hidT s.heap H) := by
    obtain ⟨mc, n1, n2⟩ := nl
    exact ⟨inB, nsH gl, ⟨mb, nsH bl, bv⟩, mc, nsH n1, n2⟩
  have tbs : ∀ p ∈ cs, TabB (hidT s.heap H) mg p.1 p.2.1 := fun p hp => by
    have tp := tabs p hp
    have nG : mainGlobals ≠ p.2.1 := fun z => by
      obtain ⟨o, es, ep, e, d, _⟩ := gl
      rw [z, tp] at e
      cases e; cases d
    refine ⟨?_, ?_, nG⟩
    · obtain ⟨o, us, file, tf, flags, tg, inF, text, tt, e1, r1, r2, r3, r4, r5, r6, r7, r8, hne⟩ := heads p hp
      refine ⟨o, us, file, tf, flags, tg, inF, text, tt, hid e1 (notA e1 fun m n z => by rw [r2] at z; cases z) (fun z => ?_), r1, r2, r3, r4, r5, r6, r7, r8, hne⟩
      rw [z] at r2
      have r2 : Data.fields #[] = Data.fields us := r2
      cases r2
      simp at r3
    · obtain ⟨m, om, b1, b2, b3, b4, b5, b6⟩ := bm
      have nM : m ≠ mainGlobals := fun z => by
        obtain ⟨o, es, ep, e, d, _⟩ := gl
        rw [z, e] at b3
        cases b3
        rw [d] at b6; cases b6
      have nP : m ≠ p.2.1 := fun z => by
        rw [z, tp] at b3
        cases b3; cases b6
      exact ⟨m, om, b1, b2, nM, nP, hid b3 (notA b3 fun m n z => by rw [b6] at z; cases z) (fun z => by rw [z] at b6; cases b6), b4, b5, b6⟩
  have e0 : Env0 P w K mg (hidT s.heap H) callerA [] s H :=
    { frames := rfl, mod := md, bs := fun b o e => of_hidT e, bsz := Nat.le_of_eq (hidT_size _ _), funs := trivial, frf := fun b hb => (List.not_mem_nil hb).elim, hok := hok, bare := .of_eq ge }
  refine codeAny_mono ((F _ inB (nsH gl) tbs).run callerA [] s H ⟨[.ref a], []⟩ [.ref a] [.ref a] (fun v _ => v = .bl true) (fun _ _ _ => False) room rfl e0 (bd s (.ref a)) (.cons rfl .nil) (asks H only seq)) fun r s' h => ?_
  match r, h with
  | .error e, h =>
    obtain ⟨_, _, _, _, _, _, _, _, _, _, _, _, z⟩ := h
    exact z.elim
  | .ok .next, h => exact h.elim
  | .ok .brk, h => exact h.elim
  | .ok .cont, h => exact h.elim
  | .ok (.ret u), h =>
    obtain ⟨v, H', e1, e2, un, hok', rr, e3⟩ := h
    have e3 : v = .bl true := e3
    subst e3
    obtain rfl : u = Value.bool true := rr
    have key : ∀ b o, ¬ isTb (tabsM cs) b → s.heap.get? b = some o → s'.heap.get? b = some o := fun b o nb e => by
      rcases cases_ b with q | ⟨_, _, q⟩ | ⟨z, _⟩
      · exact un.keep b o e q (fun z => (List.not_mem_nil z).elim) List.not_mem_nil
      · obtain ⟨g1, _⟩ := hok b _ q
        obtain ⟨g2, _⟩ := hok' b _ (un.frzs b ob _ q)
        rw [e] at g1
        cases g1
        exact g2
      · exact absurd z nb
    have grown : ∀ p ∈ cs, ∃ more : Array Value, s'.heap.get? p.2.1 = some { cls := .none, data := .fields more } := fun p hp => by
      obtain ⟨more, z⟩ := un.tbls p.2.1 #[] (atT p hp)
      exact ⟨_, hok' p.2.1 _ z⟩
    refine ⟨rfl, ⟨fun b o e => ?_, fun b o e => ?_⟩, e1, e2⟩
    · by_cases hb : isTb (tabsM cs) b
      · obtain ⟨p, hp, rfl⟩ := isT hb
        obtain ⟨more, hm⟩ := grown p hp
        rw [tabs p hp] at e
        cases e
        exact .inr (.inl ⟨((heads p hp).tab (tabs p hp)).isCodeTable, rfl, #[], more, rfl, by rw [Array.empty_append]; exact hm⟩)
      · exact .inl (key b o hb e)
    · by_cases hb : isTb (tabsM cs) b
      · obtain ⟨p, hp, rfl⟩ := isT hb
        obtain ⟨more, hm⟩ := grown p hp
        exact ⟨_, hm⟩
      · exact ⟨o, key b o hb e⟩
/-- a law over a head by facts, with tables of code objects -/
theorem walk_ofGT {l : PySem.W.OpenLaw} {n k : Nat} {q : Program} {loose : List Str} {XP : (Str → Option Value) → Heap → Prop} {YP : World → Heap → Prop} {d : DefRec} {x : Str}
    (most : l.most = some n) (few : n ≤ sizeLine) (dfl : d.params.defaults = []) (room : Room k callerA)
    (F : ∀ (w : World) (mg : Str → Option Value) (fa : Addr) (h : Heap), YP w h → h.Ns mainGlobals mg → mg d.name = some (.ref fa) →
      ∃ (K : PySem.W.Frag) (fd : FuncData) (sp : Sp) (cs : List Mkr), K.In h ∧ (∀ p ∈ cs, h.get? p.2.1 = some { cls := .none, data := .fields #[] }) ∧ (∀ p ∈ cs, K.lookup p.2.1 = none) ∧ (∀ p ∈ cs, PySem.W.CodeHd h p.1 p.2.1) ∧ (∀ (s : Shared) (u : Value), BindsTo s fd ⟨[u], []⟩ [(x, u)]) ∧
        (∀ (H : Hp) (a : Addr) (ns : List Int), ns.length ≤ n → OnlyT (tabsM cs) H → SqL K H a (ns.map V.int) → sp [.ref a] H (fun v _ => v = .bl true) fun _ _ _ => False) ∧ ∀ base : Heap, K.In base → base.Ns mainGlobals mg → (∀ p ∈ cs, TabB base mg p.1 p.2.1) → FnG l.prog w K mg base k fa fd [x] sp) :
    PySem.W.WalkO q loose XP YP l.row.toRowW d [] (fun f vs => PySem.call f vs) :=
  Att.attach_call most dfl fun w s₀ s₁ mg mb fa o pm cd doc a vs ns G Y _ _ _ e1 e2 e3 e4 e5 => by
    obtain ⟨K, fd, sp, cs, inK, t1, t2, t3, bd, asks, fn⟩ := F w mg fa _ Y G.T.g e1
    exact law_callGT inK G.T.g G.T.b G.T.builtins G.T.nolimit e5 t1 t2 t3 G.T.bmain e2 e3 (Nat.le_trans e4 few) room fn bd fun H h1 h2 => asks H a ns e4 h1 h2
end WL

/-! ZE: raise, over data. -/
namespace WL
open PySem PySem.Spec PyProof.Rows L2
section
variable {X : Cx} {k : Nat} {fI C : Addr} {fd : FuncData} {ps : List Str} {sp : Sp} {x : Str} {p pos : Pos} {e : Expr} {es : List Expr} {ta : TA}
/-- C(e, ..) that is raised, C an error class with an own __init__ -/
theorem pmk_oexG (T : OexC X.K C) (iC : PySem.W.findIn X.K (.ref C) "__init__" = some (some (.ref fI))) (tI : PySem.W.typeIn X.K (.ref fI) = some (.type "function")) (F1 : FnG X.prog X.w X.K X.mg X.base k fI fd ps sp) (room : Room (k + 1) X.A) (gd : X.A.guards = some []) (hb : Binds X.K fd ps [])
    (hg : Gl X x) (hm : X.mg x = some (.ref C)) (ha : PA X (e :: es) ta) (hdb : (x == ("__debug__" : Str)) = false) (he : starEach (e :: es) X.env = (false, eval e X.env) :: starEach es X.env) (hpl : (backTo pos (starEach es X.env)).any (·.1) = false) :
    PMk X (.Call (.Name x p) (e :: es) [] pos) (tMkO C sp [] ta) := by
  intro pins s σ H Q I wish
  obtain ⟨nm, q, N, bs, bm, sn, sub, ab, col, dd, k0, k1, k2, k3, k5, atC, refs⟩ := T.cls
  refine wpAny_Call_Name_kw (ld_glob I hg hm ?_ hdb)
  refine PySem.W.callWith_K (h₀ := X.base) I.ok.mod.kin T.kC (thn (ha.run pos pins s σ H _ I wish) fun us s1 ⟨vs, H1, I1, r1, few, q1⟩ => ⟨I1.kIn, ?_⟩) he hpl
  show wpAny _ _ (call (.ref C) us) _ _ _
  obtain ⟨hp, g, dr, tk, os⟩ := s1
  have big : hp.objs.size ≤ hp.objs.size + 1 := Nat.le_succ _
  have new : H1 (hp.objs.size + 1) = none := I1.hok.fresh big
  have asked := q1 (hp.objs.size + 1) new
  have stays : ∀ b o, hp.get? b = some o → ((hp.push (PySem.W.kdv_tup us)).push (PySem.HandSPX.excO C hp.objs.size)).get? b = some o := fun b o z => Heap.get?_push_of_some _ (Heap.get?_push_of_some _ z)
  have there : ((hp.push (PySem.W.kdv_tup us)).push (PySem.HandSPX.excO C hp.objs.size)).get? (hp.objs.size + 1) = some (PySem.HandSPX.excO C hp.objs.size) := by heap_get
  have I2 := I1.laid (t' := tk) (a := hp.objs.size + 1) (o := exo (hp.objs.size + 1) C none) (h' := (hp.push (PySem.W.kdv_tup us)).push (PySem.HandSPX.excO C hp.objs.size)) stays big (exo_ok there)
  have vals : Vals (V.ref (hp.objs.size + 1) :: (vs ++ [])) (Value.ref (hp.objs.size + 1) :: (us ++ [])) := .cons rfl (r1.append .nil)
  have fits : (Value.ref (hp.objs.size + 1) :: us ++ []).length = ps.length := by
    have z := vals.length
    rw [F1.len _ _ _ _ asked] at z
    exact z.symm
  have few' : us.length ≤ sizeLine := by
    rw [← Paired.length r1, sizeLine_eq]
    omega
  have gd2 : (X.A.under (.builtin "type.__call__" ⟨.ref C :: us, []⟩)).guards = some [] := by
    first | exact gd | simpa [Around.under, Around.guards, Code.envs, Code.isFrame] using gd
  refine wpAny_call (PySem.HandSPX.call_own F.excBase_ValueError (fun Y => PySem.HandSPX.refsVE_contains Y bm refs) (I1.kIn _ _ atC) (PySem.W.looks_findIn I1.kIn iC) (fun self => PySem.W.bind_fn I1.kIn self tI) few'
    (codeAny_mono (F1.run _ X.stack _ _ ⟨Value.ref (hp.objs.size + 1) :: us, []⟩ (Value.ref (hp.objs.size + 1) :: (us ++ [])) _ _ (fun _ _ _ => False) (room.make C us []) gd2 (I2.env0.make C us []) (by simpa using hb _ (Value.ref (hp.objs.size + 1) :: us) I2.kIn fits) vals asked) fun r s' got => ?_))
  match r, got with
  | .error er, got =>
    obtain ⟨_, _, _, _, _, _, _, _, _, _, _, _, z⟩ := got
    exact z.elim
  | .ok (.ret u), got =>
    obtain ⟨v, H2, os2, bare2, un2, hok2, rv, ev, d, fs, ea, ed, hd1, q2⟩ := got
    subst ev
    obtain ⟨h2, g2, d2, t2, os'⟩ := s'
    exact ⟨rv, mk_end (raises_own T.exC T.tyC) I1 big stays un2 hok2 os2 bare2 ea ed hd1 q2⟩
  | .ok .next, got => exact got.elim
  | .ok .brk, got => exact got.elim
  | .ok .cont, got => exact got.elim
end
def fRaise0 (c : Nat) (xd : D → Prop) (fa : FE) : FS := fun _ ρ => fa ρ fun _ _ => xd (.exc c [])
def fRaise1 (c : Nat) (xd : D → Prop) (fa : FE) : FS := fun _ ρ => fa ρ fun _ y => xd (.exc c [y])
section
variable {G : Glob} {X : Cx} {O : XO} {rk : Bool} {e : Expr} {ka : Kd} {ca : Bool} {fa : FE} {p pos rpos : Pos} {x : Str} {ns : List (Str × Option Str)}
/-- what may be raised here -/
theorem Eok.raise {K : PySem.W.Frag} {B : Bs} {S S' : Fz} {H H' : Hp} {σ : L2.St} {ρ ρ' : EnvD} {cls : Value} {dx : Option Addr} {y : D} (I : Eok G K O B S H σ ρ) (J : Eok G K O B S' H' σ ρ') (m : Sub 0 S S') (d : DX G K S' H' cls dx y) (h : O.xd y) : O.W cls dx σ H' := by
  rcases I.tz with z | z
  · exact I.xr 0 cls dx S' H' σ y J.toSta (by have := m.lo; omega) m (fun _ _ => rfl) d h
  · exact absurd h (z y)
theorem s_raise1 {j : Nat} {f : Str} (c : Nat) (T : ErTb G X.K X.mg ns) (F : MkE X.prog X.w X.K X.mg X.base x f) (hr : Room (j + 2) X.A) (hgd : X.A.guards = some []) (tk : Takes X O.W) (ha : PDe G X O e .st ca 0 fa) (calm : X.calm = true := by rfl) (hc : ns[c]? = some (x, some f) := by rfl) (hg : Gl X x := by rfl) (hdb : (x == ("__debug__" : Str)) = false := by decide)
    (he : starEach [e] X.env = (false, eval e X.env) :: starEach [] X.env := by rfl) (hpl : (backTo pos (starEach [] X.env)).any (·.1) = false := by rfl) : PDs G X O rk (.Raise (some (.Call (.Name x p) [e] [] pos)) none rpos) 0 (fRaise1 c O.xd fa) := by
  obtain ⟨C, hm, hec, E, _, _, hno, _⟩ := T.ec c x (some f) hc
  obtain ⟨fI, fd, n0, n1, iC, tI, F1, hb⟩ := F.ex C hm
  obtain ⟨ta, pa, qa⟩ := ha.run
  refine ⟨_, ps_raise calm tk (pmk_oexG (k := 1) E.ox iC tI F1 (hr.mono (by omega)) hgd hb hg hm (pa_cons pa pa_nil he) hdb he hpl), fun B S H σ ρ Ed D I hb hf _ => ?_⟩
  refine qa B S H σ ρ _ _ I (by omega) hf fun v H1 S1 ρ1 d1 I1 m1 c1 r1 h1 => ⟨by simp, fun a ha => ?_⟩
  refine ⟨a, C, v, rfl, E.ox, hno f rfl, upd_same, fun dx hdx hne => ⟨rfl, dx, _, upd_same, by rw [upd_ne hne, upd_same], by rw [upd_ne hne] at hdx; exact hdx, ?_⟩⟩
  have hdx1 : H1 dx = none := by rw [upd_ne hne] at hdx; exact hdx
  have eH : upd (del (upd (upd (upd H1 a (exo a C none)) dx (exd dx [(f, v)])) a (exo a C (some dx))) a) dx (.xd [(f, v)]) = upd H1 dx (.xd [(f, v)]) := by
    funext b
    by_cases h : b = dx
    · rw [h, upd_same, upd_same]
    · rw [upd_ne h, upd_ne h]
      by_cases h2 : b = a
      · rw [h2, del_same, ha]
      · rw [del_ne h2, upd_ne h2, upd_ne h, upd_ne h2]
  rw [eH]
  obtain ⟨I2, m2⟩ := I1.laysF (u := HO.xd [(f, v)]) hdx1
  exact I.raise (y := .exc c [d1]) I2 (m1.t0 m2) ⟨C, some f, hec, rfl, dx, v, d1, rfl, Fz.put_same, rfl, Den.mono m2 r1⟩ h1
end
end WL

/-! ZF: x(lambda: body), x the def that returns the error that the work raises, over data. -/
namespace WL
open PySem PySem.Spec PyProof.Rows L2 LamX
/-- the memory of the text knows the tables of code objects -/
structure LamG (G : Glob) (T : List (Addr × Str)) : Prop where
  tabs : ∀ n H, G.J n H → Tabs T H
  grow : ∀ n H H1, G.J n H → Grew T H H1 → G.J n H1
theorem lamG_D {T ct ec a b c} : LamG (GD T ct ec a b c) T :=
  ⟨fun _ _ h => h.2, fun n H H1 ⟨⟨ws, cs, r, t, d, h1, h2⟩, _⟩ g => ⟨⟨ws, cs, r, t, ⟨g.ext _ _ d.ha (fun _ z => nomatch z), g.ext _ _ d.hb (fun _ z => nomatch z), g.ext _ _ d.hc (fun _ z => nomatch z)⟩, h1, h2⟩, g.tabs⟩⟩
section
variable {G : Glob} {K : PySem.W.Frag} {O : XO} {B : Bs} {S : Fz} {H H1 : Hp} {σ : L2.St} {ρ : EnvD} {T : List (Addr × Str)}
theorem noTbl_iff (S : Fz) (p : Addr) (o : HO) : S.noTbl p = some o ↔ S p = some o ∧ ∀ ps, o ≠ .tbl ps := by
  show (match S p with | some (.tbl _) => none | x => x) = some o ↔ _
  split
  · rename_i e; rw [e]
    exact ⟨fun z => (nomatch z), fun ⟨z, q⟩ => by cases z; exact absurd rfl (q _)⟩
  · rename_i e
    exact ⟨fun z => ⟨z, fun ps y => e ps (by rw [z, y])⟩, fun z => z.1⟩
theorem noTbl_none {S : Fz} {p : Addr} (h : S p = none) : S.noTbl p = none := by
  show (match S p with | some (.tbl _) => none | x => x) = none
  rw [h]
theorem Eok.grew (L : LamG G T) (I : Eok G K O B S H σ ρ) (g : Grew T H H1) : Eok G K O B ⟨S.noTbl, S.T⟩ H1 σ ρ ∧ Sub 0 S ⟨S.noTbl, S.T⟩ := by
  have sub : Sub 0 S ⟨S.noTbl, S.T⟩ := ⟨fun p u hd z => z.elim (fun z => .inl ((noTbl_iff S p u).mpr ⟨z, fun _ e => by rw [e] at hd; cases hd⟩)) fun ⟨o, z⟩ => .inr ⟨o, (noTbl_iff S p _).mpr ⟨z, fun _ e => nomatch e⟩⟩,
    fun p u _ hf z => (noTbl_iff S p u).mpr ⟨z, fun _ e => by rw [e] at hf; cases hf⟩, Nat.le_refl _⟩
  have st : Sta G K B ⟨S.noTbl, S.T⟩ H1 := by
    refine ⟨fun p o z => ?_, fun p m => noTbl_none (I.sm p m), L.grow _ _ _ I.j g, fun p z => g.dom p (I.dom p z), fun p z nt => ?_, fun p o z m nt => ?_⟩
    · obtain ⟨z1, z2⟩ := (noTbl_iff S p o).mp z
      exact g.ext p o (I.le p o z1) z2
    · refine I.sn p (fun y => z (noTbl_none y)) fun xs y => nt xs ((noTbl_iff S p _).mpr ⟨y, fun _ z => txo_tbl z⟩)
    · rcases I.kept p o z m nt with q | ⟨dk, ns, od, q⟩
      · exact .inl (g.ext p o q nt)
      · exact .inr ⟨dk, ns, od, g.ext p _ q fun _ z => nomatch z⟩
  have own : ∀ {p o}, Own1 G K B S H p o → Own1 G K B ⟨S.noTbl, S.T⟩ H1 p o := fun {p o} w => by
    obtain ⟨u, e, _, _, _, nt⟩ := w.at_.there
    exact w.keep sub (by rw [w.s]; exact noTbl_none w.s) (by rw [e]; exact g.ext p u e nt)
  refine ⟨⟨st, I.tz, fun n2 cls dx S2 H2 σ2 x t2 l2 m2 k2 d2 => I.xr _ cls dx S2 H2 σ2 x t2 l2 (sub.trans m2) k2 d2, fun i d e => ?_, fun i o e => ?_, I.ap, fun j p o e => own (I.tm j p o e), I.ta, I.tt, I.len, I.sf, I.kp⟩, sub⟩
  · obtain ⟨v, e1, e2⟩ := I.im i d e
    exact ⟨v, e1, e2.mono sub⟩
  · obtain ⟨p, e1, e2⟩ := I.ow i o e
    exact ⟨p, e1, own e2⟩
/-- a reading as such, whatever the context -/
def eCan (G : Glob) (K : PySem.W.Frag) (O : XO) (k : Kd) (c : Bool) (n : Nat) (f : FE) : TE := fun σ H Q => ∃ (B : Bs) (S : Fz) (ρ : EnvD) (Kc : EnvD → D → Prop), Eok G K O B S H σ ρ ∧ S.T + n ≤ limT ∧ f ρ Kc ∧
  ∀ v H' S' ρ' d, Eok G K O B S' H' σ ρ' → Sub n S S' → (c = true → ρ' = ρ) → ROk G K B S' H' σ ρ' v d k → Kc ρ' d → Q v H'
theorem can_pe {X : Cx} {e : Expr} {k : Kd} {c : Bool} {n : Nat} {f : FE} (h : PDe G X O e k c n f) : PE X e (eCan G X.K O k c n f) := by
  obtain ⟨t, pt, q⟩ := h.run
  exact ⟨fun pins s σ H Q I ⟨B, S, ρ, Kc, J, hb, hf, hq⟩ => pt.run pins s σ H Q I (q B S H σ ρ Kc Q J hb hf hq)⟩
/-- the maker's code object and its table -/
structure Makes (base : Heap) (mg : Str → Option Value) (T : List (Addr × Str)) (cd : Value) (q : Str) : Prop where
  ex : ∃ c P, cd = .ref c ∧ TabB base mg c P ∧ (P, q) ∈ T ∧ ∀ p ∈ T, p.1 = P → p.2 = q
/-- every error of the text is one of the class b -/
def CaughtB (G : Glob) (K : PySem.W.Frag) (mg : Str → Option Value) (b : Str) : Prop := ∃ CS, mg b = some (.ref CS) ∧ ∀ c C fl, G.ec c = some (C, fl) → PySem.W.exmOne K (.ref C) (.ref CS) = some true
/-- the error that the work raises, or None; the work sees what is frozen alone -/
def fCaught (fb : (D → Prop) → FE) : FE := fun ρ Kc => fb (fun x => Kc ρ x) (frzE [] ρ) fun _ _ => Kc ρ .non
/-- the exception, caught, is a datum -/
theorem Eok.caught {x : D} {cls : Value} {dx : Option Addr} {e : Addr} (I : Eok G K O B S H σ ρ) (d : DX G K S H cls dx x) (he : H e = none) : ∃ C fl c S', G.ec c = some (C, fl) ∧ cls = .ref C ∧ Eok G K O B S' (upd H e (exR e cls dx)) σ ρ ∧ Sub 0 S S' ∧ Den G K S' (.ref e) x := by
  cases x with
  | exc c fs =>
    obtain ⟨C, fl, hec, rfl, h⟩ := d
    obtain ⟨I2, m2⟩ := I.laysF (u := exR e (.ref C) dx) he
    refine ⟨C, fl, c, _, hec, rfl, I2, m2, ?_⟩
    cases fl with
    | none =>
      obtain ⟨rfl, rfl⟩ := h
      exact .excR0 hec Fz.put_same
    | some f =>
      obtain ⟨dd, v, y, rfl, hd, rfl, hv⟩ := h
      exact .excR1 hec Fz.put_same (m2.ot _ _ rfl rfl hd) (hv.mono m2)
  | _ => exact d.elim
end
section
variable {G : Glob} {X : Cx} {O : XO} {T : List (Addr × Str)} {kb : Kd} {cb : Bool} {fb : (D → Prop) → FE}
end
end WL

/-! ZG: what the head says of the makers of lambdas. -/
namespace WL
open PySem PySem.Spec PyProof.Rows L2 LamX
/-- the makers: where each stands, the name of what it makes -/
abbrev Mk1 : Type := He.Defn × Str
def mkrsOf (K : PySem.W.Frag) (ms : List Mk1) : List Mkr := ms.map fun p => ((He.cT K p.1).1, (He.cT K p.1).2, p.2)
def tabsOf (K : PySem.W.Frag) (ms : List Mk1) : List (Addr × Str) := ms.map fun p => ((He.cT K p.1).2, p.2)
theorem tabsOf_eq (K : PySem.W.Frag) (ms : List Mk1) : tabsM (mkrsOf K ms) = tabsOf K ms := by
  unfold tabsM mkrsOf tabsOf
  rw [List.map_map]
  rfl
theorem makes_of {K : PySem.W.Frag} {base : Heap} {mg : Str → Option Value} {ms : List Mk1} {p : He.Defn} {q x qual : Str} {params : Arguments} {body : List Stmt} {scope : Scope} {dvs : List V} {kws : List (Str × V)} {fd : FuncData} (D : FunD K x qual params body scope dvs kws (He.fAd K p) fd) (hin : (p, q) ∈ ms)
    (apart : apartB (ms.map (·.1)) K = true) (tb : ∀ r ∈ mkrsOf K ms, TabB base mg r.1 r.2.1) : Makes base mg (tabsOf K ms) fd.code q := by
  obtain ⟨oc, od, dV, kV, doc, pm, an, cdv, ct, osl, rfl, lk, hcd, _, _⟩ := D.ex
  obtain ⟨c, rfl⟩ := He.codeIn_ref hcd
  have ec : He.codeOf K p = c := He.codeOf_eq lk rfl
  have t := tb _ (List.mem_map.mpr ⟨(p, q), hin, rfl⟩)
  refine ⟨c, (He.cT K p).2, rfl, ?_, List.mem_map.mpr ⟨(p, q), hin, rfl⟩, fun r hr e => ?_⟩
  · have e1 : (He.cT K p).1 = c := ec
    rw [← e1]; exact t
  · obtain ⟨s, hs, rfl⟩ := List.mem_map.mp hr
    have nd := of_decide_eq_true apart
    rw [List.map_map] at nd
    have inj : ∀ {l : List Mk1}, (l.map fun s => (He.cT K s.1).2).Nodup → ∀ {a b : Mk1}, a ∈ l → b ∈ l → (He.cT K a.1).2 = (He.cT K b.1).2 → a = b := fun {l} => by
      induction l with
      | nil => intro _ a b h; cases h
      | cons y l ih =>
        intro nd a b ha hb e
        rw [List.map_cons, List.nodup_cons] at nd
        rcases List.mem_cons.mp ha with ea | ha2
        · rcases List.mem_cons.mp hb with eb | hb2
          · rw [ea, eb]
          · exact (nd.1 (List.mem_map.mpr ⟨b, hb2, by rw [← ea]; exact e.symm⟩)).elim
        · rcases List.mem_cons.mp hb with eb | hb2
          · exact (nd.1 (List.mem_map.mpr ⟨a, ha2, by rw [← eb]; exact e⟩)).elim
          · exact ih nd.2 ha2 hb2 e
    have := inj nd hs hin e
    rw [this]
theorem caughtB_of {K : PySem.W.Frag} {mg : Str → Option Value} {ns : List (Str × Option Str)} {b : Str} {G : Glob} (he : exmB ns b K = true) (hg : G.ec = ecOf K ns) (gb : mg b = some (.ref (He.ga K b))) : CaughtB G K mg b := by
  refine ⟨_, gb, fun c C fl e => ?_⟩
  rw [hg] at e
  unfold ecOf at e
  cases q : ns[c]? with
  | none => rw [q] at e; cases e
  | some p =>
    rw [q] at e
    cases e
    exact of_decide_eq_true (List.all_eq_true.mp he p (List.mem_of_getElem? q))
end WL

/-! ZH: isinstance of an error, or None, and a tuple of error classes. -/
namespace WL
open PySem PySem.Spec PyProof.Rows L2
def NoE (K : PySem.W.Frag) (mg : Str → Option Value) (ns : List (Str × Option Str)) : Prop := ∀ (d : Nat) (y : Str) (gl : Option Str) (D : Addr), ns[d]? = some (y, gl) → mg y = some (.ref D) → PySem.W.kitOne K (.type "NoneType") (.ref D) = some false
theorem noE_of {G : Glob} {K : PySem.W.Frag} {mg : Str → Option Value} {ns : List (Str × Option Str)} (T : ErTb G K mg ns) (hg : G.ec = ecOf K ns) (h : noneB ns K = true) : NoE K mg ns := fun d y gl D hd hm => by
  obtain ⟨C, h1, h2, _⟩ := T.ec d y gl hd
  rw [hm] at h1
  cases h1
  have e : some (He.ga K y, gl) = some (D, gl) := by
    rw [← h2, hg]
    unfold ecOf
    rw [hd]; rfl
  have e2 : He.ga K y = D := congrArg Prod.fst (Option.some.inj e)
  have := of_decide_eq_true (List.all_eq_true.mp h _ (List.mem_of_getElem? hd))
  rw [← e2]
  exact this
/-- names of error classes, told by their numbers -/
structure PAe (X : Cx) (ns : List (Str × Option Str)) (es : List Expr) (ds : List Nat) : Prop where
  ex : ∃ Ds : List Addr, PA X es (fun _ H Q => Q (Ds.map V.ref) H) ∧ Paired (fun d D => ∃ y fl, ns[d]? = some (y, fl) ∧ X.mg y = some (.ref D)) ds Ds
section
variable {G : Glob} {X : Cx} {O : XO} {ns : List (Str × Option Str)} {e : Expr} {es : List Expr} {ds : List Nat} {ka : Kd} {ca : Bool} {na : Nat} {fa : FE} {p p2 p4 pos : Pos} {y : Str} {fl : Option Str}
theorem pa_e0 : PAe X ns [] [] := ⟨[], pa_nil, .nil⟩
theorem pa_eC (d : Nat) (T : ErTb G X.K X.mg ns) (r : PAe X ns es ds) (hd : ns[d]? = some (y, fl) := by rfl) (hg : Gl X y := by rfl) (he : starEach (.Name y p2 :: es) X.env = (false, eval (.Name y p2) X.env) :: starEach es X.env := by rfl) (hdb : (y == ("__debug__" : Str)) = false := by decide) : PAe X ns (.Name y p2 :: es) (d :: ds) := by
  obtain ⟨Ds, pa, q⟩ := r.ex
  obtain ⟨D, hD, _⟩ := T.ec d y fl hd
  exact ⟨D :: Ds, pa_cons (pe_glob (v := .ref D) hg hD rfl hdb) pa he, .cons ⟨y, fl, hd, hD⟩ q⟩
def opIsEs (ds : List Nat) (x : D) (P : D → Prop) : Prop := match x with
  | .exc c _ => P (.bl (ds.any fun d => c == d || d == 0))
  | .non => P (.bl false)
  | _ => False
theorem kit_all {K : PySem.W.Frag} {t : Value} {f : Nat → Bool} : ∀ {ds : List Nat} {Ds : List Addr}, Paired (fun d D => PySem.W.kitOne K t (.ref D) = some (f d)) ds Ds → PySem.W.kitAny K t (Ds.map Value.ref) = some (ds.any f)
  | _, _, .nil => rfl
  | d :: ds, D :: Ds, .cons h r => by
    rw [List.map_cons, List.any_cons]
    have ih := kit_all r
    refine kitAny_cons h (fun hf => ?_) fun ht => by rw [ht]; rfl
    rw [hf, Bool.false_or]
    exact ih
theorem cls_all (Ds : List Addr) : Paired ClsV (Ds.map V.ref) (Ds.map Value.ref) := by
  induction Ds with
  | nil => exact .nil
  | cons D Ds ih => exact .cons (.own D) ih
abbrev rIsEs (K : PySem.W.Frag) (Ds : List Addr) (x : V) (H : Hp) (Q : VK) : Prop := ∃ b, ((∃ a C, x = .ref a ∧ Held H a C ∧ ErrC K C ∧ PySem.W.kitAny K (.ref C) (Ds.map Value.ref) = some b) ∨ (x = .non ∧ PySem.W.kitAny K (.type "NoneType") (Ds.map Value.ref) = some b)) ∧ Q (.bl b) H
theorem call_isEs {Ds : List Addr} : CallR X (.builtin "isinstance") (fun xs H Q => ∃ x tp, xs = [x, .ref tp] ∧ H tp = some (.tup (Ds.map V.ref)) ∧ rIsEs X.K Ds x H Q) := by
  intro pins s σ H xs us Q I r h
  obtain ⟨x, tp, rfl, htp, b, hx, q⟩ := h
  obtain ⟨u1, u2, rfl, r1, r2⟩ := vals2 r
  obtain rfl : u2 = Value.ref tp := r2
  obtain ⟨_, its, rv, o, h1, h2, n, h3⟩ := (show ObjOk X.prog X.w H s.heap tp (.tup (Ds.map V.ref)) from I.hok tp _ htp)
  have e3 := ClsV.all (cls_all Ds) rv
  subst e3
  obtain ⟨oc, od, dt, sl⟩ := o
  simp only at h2 h3
  subst h2 h3
  rcases hx with ⟨a, C, rfl, hh, T, e⟩ | ⟨rfl, e⟩
  · obtain rfl : u1 = Value.ref a := r1
    obtain ⟨oe, od2, J⟩ := held_inst I hh
    have hcl : (PySem.W.clsIn X.K C).isSome = true := by
      obtain ⟨cd, hc, _⟩ := PySem.W.any_some T.xc.hd
      rw [hc]; rfl
    exact PySem.W.kia_tup (PySem.W.kitx_exc hcl T.xc.hg T.xc.hk T.xc.hs T.xc.ha T.xc.hn T.xc.ht T.xc.hm) I.kIn J h1 e (fun z => nomatch z) fun tk => ⟨.bl b, H, I.tok tk, rfl, q⟩
  · obtain ⟨P, Z, pp, hz⟩ := kit_of I r1 (t := .type "NoneType") (TyX.base TyOf.non)
    exact PySem.W.kia_tup Z I.kIn pp h1 e hz fun tk => ⟨.bl b, H, I.tok tk, rfl, q⟩
theorem e_isEs {x1} (T : ErTb G X.K X.mg ns) (N : NoE X.K X.mg ns) (ha : PDe G X O e .st ca na fa) (hm : X.mg "isinstance" = none) (hp : PAe X ns es ds) (hl : ds.length ≤ 100) (hg : Gl X "isinstance" := by rfl)
    (he : starEach [e, .Tuple es x1 p4] X.env = (false, eval e X.env) :: starEach [.Tuple es x1 p4] X.env := by rfl) (he2 : starEach [.Tuple es x1 p4] X.env = (false, eval (.Tuple es x1 p4) X.env) :: starEach [] X.env := by rfl) (hpl : (backTo pos (starEach [.Tuple es x1 p4] X.env)).any (·.1) = false := by rfl) :
    PDe G X O (.Call (.Name "isinstance" p) [e, .Tuple es x1 p4] [] pos) .st ca na (fUn (opIsEs ds) fa) := by
  obtain ⟨ta, pa, qa⟩ := ha.run
  obtain ⟨Ds, pt, pr⟩ := hp.ex
  refine ⟨_, pe_callB (call_isEs (Ds := Ds)) hg hm (by rfl) (pa_cons pa (pa_cons (pe_tup pt) pa_nil he2) he) (by decide) (by decide) he hpl, fun B S H σ ρ Kc Q I hb hf hq => ?_⟩
  refine qa B S H σ ρ _ _ I (by omega) hf fun v H1 S1 ρ1 d1 I1 m1 c1 r1 h1 => ?_
  refine ⟨by rw [List.length_map, ← pr.length]; exact Nat.le_trans hl (by decide), fun tp htp => ?_⟩
  obtain ⟨I2, m2⟩ := I1.laysF (u := HO.tup (Ds.map V.ref)) htp
  refine ⟨v, tp, rfl, upd_same, ?_⟩
  unfold opIsEs at h1
  split at h1
  · rename_i c fs
    obtain ⟨a, C, fl', rfl, hc, hh⟩ := (Den.mono m2 r1).exc_held I2.le
    obtain ⟨x, hx⟩ := T.inv c C fl' hc
    obtain ⟨C', _, hc', E, _, _, _, hk⟩ := T.ec c x fl' hx
    rw [hc] at hc'; cases hc'
    exact ⟨_, .inl ⟨a, C, rfl, hh, E, kit_all (Paired.mapP pr fun d D ⟨y, fl, h1, h2⟩ => hk d y fl D h1 h2)⟩, hq _ _ _ ρ1 _ I2 (m1.t0 m2) c1 (Den.bl _) h1⟩
  · obtain rfl := Den.non_inv r1
    have := kit_all (f := fun _ => false) (Paired.mapP pr fun d D ⟨y, fl, h1, h2⟩ => N d y fl D h1 h2)
    refine ⟨_, .inr ⟨rfl, this⟩, hq _ _ _ ρ1 _ I2 (m1.t0 m2) c1 (Den.bl _) ?_⟩
    have e : ds.any (fun _ => false) = false := by simp
    rw [e]
    exact h1
  · exact h1.elim
end
end WL

/-! ZI: list(d.values()). -/
namespace WL
open PySem PySem.Spec PyProof.Rows L2
section
variable {X : Cx} {e : Expr} {te : TE} {p apos cpos pos : Pos}
end
def valsVD (d : D) (P : D → Prop) : Prop := match d with
  | .dct ps => noT ps = true ∧ P (.lst (ps.map (·.2)))
  | _ => False
section
variable {G : Glob} {X : Cx} {O : XO} {o : Expr} {p pos apos cpos : Pos} {ka : Kd} {ca : Bool} {na : Nat} {fa : FE}
end
section
variable {G : Glob} {X : Cx} {O : XO} {ex : Expr} {k : Kd} {c : Bool} {n : Nat} {m : Spc} {dds : List D} {fa fk : FA} {fo : FE} {xd : D → Prop} {cc j i : Nat} {gD : List D → List D → List D}
theorem e_xd (e : O.xd = xd) (h : PDe G X O ex k c n (fCall O.xd m dds fa)) : PDe G X O ex k c n (fCall xd m dds fa) := e ▸ h
theorem e_xdK (e : O.xd = xd) (h : PDe G X O ex k c n (fCallK O.xd m i j gD fa fk)) : PDe G X O ex k c n (fCallK xd m i j gD fa fk) := e ▸ h
end
end WL

/-! ZJ: a list of any items == [], != []. -/
namespace WL
open PySem PySem.Spec PyProof.Rows L2
theorem u0 {k : Nat} {A : Around} (hr : Room k A) : A.units < cLine := by have := hr.un; omega
def rL0 (K : PySem.W.Frag) (neg : Bool) : R2 := fun x y H Q => ∃ a b xs, x = V.ref a ∧ y = V.ref b ∧ SqL K H a xs ∧ SqL K H b [] ∧ Q (.bl (neg != xs.isEmpty)) H
section
variable {X : Cx}
theorem plain_isList {h : Heap} {a : Addr} {its : Array Value} (p : PlainL h a its) : h.IsList a its := by
  obtain ⟨o, n, e, c, _, d⟩ := p
  exact ⟨o, e, c, n, d⟩
theorem op_neL0 (hu : X.A.units < cLine) : OpR X (compareOp .NotEq) (rL0 X.K true) := by
  intro pins s σ H x y v u Q I rx ry h
  obtain ⟨a, b, xs, rfl, rfl, ha, hb, q⟩ := h
  obtain rfl : v = Value.ref a := rx
  obtain rfl : u = Value.ref b := ry
  obtain ⟨ia, va, pa, la⟩ := I.list ha
  obtain ⟨ib, vb, pb, lb⟩ := I.list hb
  cases vb
  cases va with
  | nil => exact SeqAt.RcNeAt.lists (e := fun _ => true) (plain_isList pa) (plain_isList pb) rfl hu (fun j h1 _ => absurd h1 (Nat.not_lt_zero _)) _ _ _ _ (fin_bl I q (by rfl))
  | cons r t => exact SeqAt.RcNeAt.lists_lengths (plain_isList pa) (plain_isList pb) (by simp) hu _ _ _ _ (fin_bl I q (by rfl))
end
def opL0 (neg : Bool) (x y : D) (P : D → Prop) : Prop := match x, y with
  | .lst xs, .lst [] => P (.bl (neg != xs.isEmpty))
  | _, _ => False
section
variable {G : Glob} {X : Cx} {O : XO} {neg : Bool}
theorem s_L0 : R2s G X O (rL0 X.K neg) (opL0 neg) .st := by
  intro B S H σ ρ ka kb v w x y Kc Q I r1 r2 h hq
  unfold opL0 at h
  split at h
  · obtain ⟨a, vs, rfl, ea, la⟩ := r1.lst I
    obtain ⟨b, ws, rfl, eb, lb⟩ := r2.lst I
    cases lb
    refine ⟨a, b, vs, rfl, rfl, .of ea, .of eb, ?_⟩
    rename_i xs
    have e : vs.isEmpty = xs.isEmpty := by cases la <;> rfl
    rw [e]
    exact hq _ H S _ I (Sub.refl _) (Den.bl _) h
  · exact h.elim
end
end WL

/-! ZK: lambdas as data: made, kept in lists, handed to the def that returns the error that the work raises. -/
namespace WL
open PySem PySem.Spec PyProof.Rows L2 LamX
/-- the lambda as an object -/
abbrev lamO (X : Cx) (params : Arguments) (body : Expr) (scope : Scope) (pm ct : Value) (k' : Addr) : Obj := PySem.W.kla_obj "<lambda>" (X.env.qual ++ "<lambda>") params body scope (cloFrom X.env.cells scope.names []) pm k' ct
section
variable {X : Cx}
theorem pe_lam {T : List (Addr × Str)} {c P : Addr} {params : Arguments} {body : Expr} {scope : Scope} {pos : Pos} (tb : TabB X.base X.mg c P) (code : X.env.code = .ref c) (inT : (P, X.env.qual ++ "<lambda>") ∈ T) (uniq : ∀ p ∈ T, p.1 = P → p.2 = X.env.qual ++ "<lambda>")
    (L : LamS X.env.scope scope) (nodef : defaultsOf params X.env = ([], [])) :
    PE X (.Lambda params body scope pos) (fun _ H Q => Tabs T H ∧ ∀ (H1 : Hp) (f k' : Addr) (pm ct : Value), Grew T H H1 → H1 f = none → H1 k' = some (CodeO k' (X.env.qual ++ "<lambda>")) → Q (.ref f) (upd H1 f (objX f (lamO X params body scope pm ct k')))) := by
  refine ⟨fun pins s σ H Q I ⟨hT, h⟩ => ?_⟩
  refine lam_made I tb code inT uniq hT nodef (L.has I.ok) fun f k' pm ct H1 s' I1 gr hf hfn hfr hk' big => ?_
  refine ⟨.ref f, _, inv_track I1 hfn (fun e => ?_) (fun x c hc e => ?_) (fun p hp e => ?_) (fun o e => ?_) (objX_ok hf), rfl, h H1 f k' pm ct gr hfn hk'⟩
  · exact absurd I.lt (by rw [← e]; exact Nat.not_lt.mpr big)
  · obtain ⟨v, o', g', _⟩ := I.cell x c hc
    exact absurd (Heap.lt_size g') (by rw [e]; exact Nat.not_lt.mpr big)
  · exact absurd (Heap.lt_size (I.pin p hp).1) (by rw [e]; exact Nat.not_lt.mpr big)
  · exact Classical.byContradiction fun ne => by
      obtain ⟨o', z'⟩ := I.base.there f o e ne
      exact absurd (Heap.lt_size z') (Nat.not_lt.mpr big)
end
section
variable {X : Cx} {pins : List (Addr × Obj)} {σ : L2.St} {H H0 : Hp} {s s0 : Shared}
/-- a(), in a def entered at s0 that holds a lambda that is known -/
theorem pe_workX {CXg : CXT} {Eg : XK} {Ng : List Str} {qg : Str} {sg : Scope} {g f k' : Addr} {cdg pm ct : Value} {params : Arguments} {body : Expr} {scope : Scope} {k i : Nat} {a : Str} {A0 : Around} {outer0 : List Env} {pn : List (Addr × Obj)} {xe : Value → Shared → Prop} {W : WX} {E : XK} {tb : TE} {p1 p2 : Pos}
    (I : Inv X pins σ H s) (L : LamS X.env.scope scope)
    (bind : bindArgs (PySem.W.kla_fn "<lambda>" (X.env.qual ++ "<lambda>") params body scope (cloFrom X.env.cells scope.names []) pm (.ref k') ct) ⟨[], []⟩ = pure [])
    (un : ∀ pinsZ σZ HZ sZ, Inv ((cxOf CXg X.prog X.w X.K X.mg X.base Ng qg sg g cdg A0 outer0 s0 H0 Eg).tr pn xe) pinsZ σZ HZ sZ → Un (frs X.stack) [] H HZ s.heap sZ.heap)
    (tk : Takes ((cxOf CXg X.prog X.w X.K X.mg X.base Ng qg sg g cdg A0 outer0 s0 H0 Eg).tr pn xe) W) (hW : ∀ cls d σ' H', E cls d H' → W cls d σ' H') (room : Room (k + 1) (A0.deeper (envOfC qg sg s0.heap.objs.size g cdg))) (gd : A0.guards = some [])
    (read : ∀ (A : Around) (outer : List Env) (s : Shared) (H : Hp), A.guards = some [] → Room k (A.deeper (lamEnv X scope s.heap.objs.size f k')) → PE (lamCx X A outer s H E scope f k') body tb)
    (hN : Ng[i]? = some a) (hv : Vis sg a) (hd : (a == ("__debug__" : Str)) = false := by decide) (hcd : (a == ("__classdict__" : Str)) = false := by decide) :
    PE ((cxOf CXg X.prog X.w X.K X.mg X.base Ng qg sg g cdg A0 outer0 s0 H0 Eg).tr pn xe) (.Call (.Name a p1) [] [] p2)
      (fun σZ HZ Q => σZ[i]? = some (some (.ref f)) ∧ HZ k' = some (CodeO k' (X.env.qual ++ "<lambda>")) ∧ (HZ f = some (objX f (lamO X params body scope pm ct k')) ∧ tb σ HZ Q)) := by
  refine ⟨fun pinsZ sZ σZ HZ Q IZ ⟨at_, codeK, objK, wish⟩ => ?_⟩
  refine wpAny_Call_Name_kw (thn ((pe_var (pos := p1) (i := i) hN hv hd hcd).run pinsZ sZ σZ HZ (fun v H1 => v = .ref f ∧ H1 = HZ) IZ ⟨.ref f, at_, rfl, rfl⟩) fun u s1 ⟨v, H1, I1, rv, ev, eH⟩ => ?_)
  subst ev eH
  obtain rfl : u = Value.ref f := rv
  have kept := un _ _ _ _ I1
  have obj1 := objX_at I1.hok objK
  refine PySem.W.callWith_F0 ⟨_, _, _, _, obj1⟩ ?_
  obtain ⟨⟨oc, vs, t, ho, hdat, hnm⟩, _, _⟩ := I1.hok k' _ codeK
  have called : codeAny (model X.prog X.w) (A0.deeper (envOfC qg sg s0.heap.objs.size g cdg)) (.call (.ref f) ⟨[], []⟩) (CR (L2.CX X.prog X.w) (envOfC qg sg s0.heap.objs.size g cdg :: outer0) X.prog X.w H1 s1 Q E) s1 := by
    refine PySem.W.kla_callFunE room.depth obj1 rfl L.co L.gen rfl ⟨k', oc, vs, t, rfl, ho, hdat, hnm⟩ ?_
    rw [bind]
    refine wpAny_pure (wpAny_newFunctionEnv (fun y hy => (L.own y hy).2) (fun y hy => absurd hy (by simp)) (fun h₁ new grown => ⟨I1.nolimit.fresh _ grown, ?_⟩) L.kind)
    show codeAny _ _ (.expr body (lamEnv X scope s1.heap.objs.size f k')) _ _
    have stays : ∀ b o, s1.heap.get? b = some o → h₁.get? b = some o := fun b o e => grown.extBut b o (Nat.ne_of_lt (Heap.lt_size e)) (Heap.get?_push_of_some _ e)
    have J := lam_start2 (A := A0.deeper (envOfC qg sg s0.heap.objs.size g cdg)) (outer := envOfC qg sg s0.heap.objs.size g cdg :: outer0) (E := E) (f := f) (c' := k') (h₁ := h₁) (tk := s1.toks + ([] : List (Str × Value)).length) I L I1.env0 room.hd kept new stays
    refine PySem.W.kla_codeExpr (wpAny_mono ((read (A0.deeper (envOfC qg sg s0.heap.objs.size g cdg)) _ s1 H1 gd (room.deeper _)).run [] _ _ H1 Q J wish) (fun v s' ⟨w', H', J', r, q⟩ => ⟨w', H', J'.os, J'.bare, J'.base, J'.hok, r, q⟩) fun e s' z => z)
  have passes : Passes (L2.CX X.prog X.w) ((cxOf CXg X.prog X.w X.K X.mg X.base Ng qg sg g cdg A0 outer0 s0 H0 Eg).tr pn xe) E := passes_call tk hW
  refine wpAny_call (codeAny_mono called fun r s' hq => ?_)
  match r, hq with
  | .error e, hq => exact passes pinsZ σZ H1 s1 e s' I1 hq
  | .ok (.ret u), hq => exact I1.after hq
  | .ok .next, hq => exact hq.elim
  | .ok .brk, hq => exact hq.elim
  | .ok .cont, hq => exact hq.elim
end
section
variable {X : Cx}
theorem pe_gaveX {TT : (XK → Hp → VK → Prop) → Hp → VK → Prop} {x a : Str} {g : Addr} {k : Nat} {pg : Arguments} {bg : List Stmt} {sg : Scope} {dV kV doc pm0 cdv ct0 oc : Value} {an od : Option Addr} {osl : Array (Option Value)} {Ng : List Str} {ev : Expr} {te : TE} {p pos : Pos} (hg : Gl X x) (hm : X.mg x = some (.ref g)) (hk : PySem.W.keepIn X.K (.ref g) = true)
    (lk : X.K.lookup g = some ⟨oc, od, .func (PySem.W.fnOf x x pg bg sg dV kV doc pm0 an cdv ct0), osl⟩) (hcg : PySem.W.codeIn X.K cdv x = true) (hb : L2.Binds X.K (PySem.W.fnOf x x pg bg sg dV kV doc pm0 an cdv ct0) [a] []) (Sg : FnScope Ng [a] sg) (hNg : Ng[0]? = some a) (hva : Vis sg a)
    (hG : GivesTo X Ng x sg g cdv bg a (X.env.qual ++ "<lambda>") TT) (hr : Room (k + 2) X.A) (gd : X.A.guards = some []) (he : PE X ev te) (na : starEach [ev] X.env = (false, eval ev X.env) :: starEach [] X.env := by rfl)
    (hdb : (x == ("__debug__" : Str)) = false := by decide) (hd : (a == ("__debug__" : Str)) = false := by decide) (hcd : (a == ("__classdict__" : Str)) = false := by decide) :
    PE X (.Call (.Name x p) [ev] [] pos) (fun σ H Q => te σ H fun v H1 => ∃ (f k' : Addr) (params : Arguments) (body : Expr) (scope : Scope) (pm ct : Value) (t : XK → TE), v = .ref f ∧ H1 f = some (objX f (lamO X params body scope pm ct k')) ∧ H1 k' = some (CodeO k' (X.env.qual ++ "<lambda>")) ∧ LamS X.env.scope scope ∧
      (∀ (q : Str) (cl : List (Str × Addr)) (pm cv ctv : Value), bindArgs (PySem.W.kla_fn "<lambda>" q params body scope cl pm cv ctv) ⟨[], []⟩ = pure []) ∧
      (∀ (A : Around) (outer : List Env) (s : Shared) (H : Hp) (E : XK), A.guards = some [] → Room k (A.deeper (lamEnv X scope s.heap.objs.size f k')) → PE (lamCx X A outer s H E scope f k') body (t E)) ∧
      TT (fun E H' Q' => H' f = some (objX f (lamO X params body scope pm ct k')) ∧ t E σ H' Q') H1 Q) := by
  refine ⟨fun pins s σ H Q I h => ?_⟩
  refine wpAny_Call_Name_kw (ld_glob I hg hm ?_ hdb)
  refine PySem.W.callWith_K (h₀ := X.base) I.ok.mod.kin hk ?_ na rfl
  rw [na]
  show wpAny _ _ (spliced ((false, eval ev X.env) :: backTo pos (starEach [] X.env))) _ _ s
  refine Calls.spliced_cons (thn (he.run pins s σ H _ I h) fun v s' ⟨w, H1, I1, rw_, f, k', params, body, scope, pm, ct, t, ew, hf, hk', L, bind, read, hT⟩ => Calls.spliced_nil ⟨I1.kIn, ?_⟩)
  subst ew
  obtain rfl : v = Value.ref f := rw_
  have called : codeAny (model X.prog X.w) X.A (.call (.ref g) ⟨[.ref f], []⟩) (CR C8.CX0 X.stack X.prog X.w H1 s' Q C8.E0) s' := by
    refine run_ofS (N := Ng) (ps := [a]) (us := [.ref f]) (vs := [.ref f]) lk hcg Sg hr I1.env0 (hb s' [.ref f] I1.kIn rfl) (.cons rfl .nil) rfl fun hr' => ?_
    obtain ⟨t', ht', hq'⟩ := hG f k' s' H1 Q (fun E H' Q' => H' f = some (objX f (lamO X params body scope pm ct k')) ∧ t E σ H' Q') (fun W pn xe E p1 p2 tk hW => pe_workX (i := 0) I1 L (bind _ _ _ _ _) (fun _ _ _ _ IZ => IZ.base) tk hW hr' gd (fun A outer s H g2 hr2 => read A outer s H E g2 hr2) hNg hva hd hcd) hk' hT
    exact ⟨t', ht'.nox, hq'⟩
  refine wpAny_call (codeAny_mono called fun r s2 hq => ?_)
  match r, hq with
  | .error e, hq => exact (show False from hq).elim
  | .ok (.ret u), hq => exact I1.after hq
  | .ok .next, hq => exact hq.elim
  | .ok .brk, hq => exact hq.elim
  | .ok .cont, hq => exact hq.elim
end
/-- x is a lambda that was made in X; its reading is fb -/
def JobX (G : Glob) (X : Cx) (k : Nat) (x : D) (fb : (D → Prop) → FE) : Prop := ∃ (params : Arguments) (body : Expr) (scope : Scope) (pm ct : Value) (k' : Addr) (kb : Kd) (cb : Bool),
  x = .fn k' (X.env.qual ++ "<lambda>") (lamO X params body scope pm ct k') ∧ LamS X.env.scope scope ∧
  (∀ (q : Str) (cl : List (Str × Addr)) (pm cv ctv : Value), bindArgs (PySem.W.kla_fn "<lambda>" q params body scope cl pm cv ctv) ⟨[], []⟩ = pure []) ∧
  ∀ (A : Around) (outer : List Env) (s : Shared) (H : Hp) (E : XK) (f c' : Addr) (xd : D → Prop) (t0 : Nat), A.guards = some [] → Room k (A.deeper (lamEnv X scope s.heap.objs.size f c')) → Takes (lamCx X A outer s H E scope f c') (defO E xd t0).W →
      PDe G (lamCx X A outer s H E scope f c') (defO E xd t0) body kb cb 0 (fb xd)
/-- a lambda, as a datum -/
def fLam (J : D → ((D → Prop) → FE) → Prop) (fb : (D → Prop) → FE) : FE := fun ρ Kc => ∀ x, J x fb → Kc ρ x
/-- what it raises, or None -/
def fCaughtV (J : D → ((D → Prop) → FE) → Prop) (fa : FE) : FE := fun ρ Kc => fa ρ fun ρ1 x => ∃ fb, J x fb ∧ fCaught fb ρ1 Kc
section
variable {G : Glob} {K : PySem.W.Frag} {O : XO} {B : Bs} {S : Fz} {H : Hp} {σ : L2.St} {ρ : EnvD}
/-- an object that is known is frozen -/
theorem Eok.seeX {b : Addr} {p : Heap → Prop} (I : Eok G K O B S H σ ρ) (h : H b = some (.ext p)) : ∃ S', Eok G K O B S' H σ ρ ∧ Sub 0 S S' ∧ S' b = some (.ext p) := by
  cases hs : S b with
  | some o =>
    have := I.le _ _ hs
    rw [h] at this; cases this
    exact ⟨S, I, Sub.refl _, hs⟩
  | none =>
  have sub : Sub 0 S (S.put b (.ext p)) := Sub.upd hs
  refine ⟨S.put b (.ext p), I.step (x := b) ⟨fun c o e => ?_, fun c m => ?_, I.j, I.dom, fun c e nt => ?_, fun c o e m n => I.kept c o e m n⟩ rfl sub ⟨fun i o w => ?_, fun j o e => ?_⟩ (fun c hc => Fz.put_ne hc) (fun _ _ => rfl), sub, Fz.put_same⟩
  · by_cases hc : c = b
    · subst hc; rw [Fz.put_same] at e; cases e; exact h
    · rw [Fz.put_ne hc] at e; exact I.le c o e
  · rw [Fz.put_ne fun z => (G.mth _ _ _ I.j (by rw [← z]; exact m)).2 (.inr p) h]; exact I.sm c m
  · by_cases hc : c = b
    · subst hc; exact absurd Fz.put_same (nt (.inr p))
    · rw [Fz.put_ne hc] at e; exact I.sn c e fun xs z => nt xs ((Fz.put_ne hc).trans z)
  · obtain ⟨u, e, mu, _, nx, _⟩ := (Owns.at I w).at_.there
    rw [h] at e; cases e; exact nx _ rfl
  · obtain ⟨u, e', mu, _, nx, _⟩ := (I.tm j b o e).at_.there
    rw [h] at e'; cases e'; exact nx _ rfl
end
section
variable {G : Glob} {X : Cx} {O : XO} {T : List (Addr × Str)} {kb : Kd} {cb : Bool} {fb : (D → Prop) → FE}
theorem e_lam {k : Nat} {params : Arguments} {body : Expr} {scope : Scope} {lpos : Pos} (L : LamG G T) (MK : Makes X.base X.mg T X.env.code (X.env.qual ++ "<lambda>"))
    (hb : ∀ (A : Around) (outer : List Env) (s : Shared) (H : Hp) (E : XK) (f c' : Addr) (xd : D → Prop) (t0 : Nat), A.guards = some [] → Room k (A.deeper (lamEnv X scope s.heap.objs.size f c')) → Takes (lamCx X A outer s H E scope f c') (defO E xd t0).W →
      PDe G (lamCx X A outer s H E scope f c') (defO E xd t0) body kb cb 0 (fb xd))
    (hl : lamSB X.env.scope scope = true) (nodef : defaultsOf params X.env = ([], []) := by rfl) (bind : ∀ (q : Str) (cl : List (Str × Addr)) (pm cv ctv : Value), bindArgs (PySem.W.kla_fn "<lambda>" q params body scope cl pm cv ctv) ⟨[], []⟩ = pure [] := by intros; rfl) :
    PDe G X O (.Lambda params body scope lpos) .st true 0 (fLam (JobX G X k) fb) := by
  obtain ⟨c, P, hc, tb, inT, uniq⟩ := MK.ex
  refine ⟨_, pe_lam tb hc inT uniq (lamS_by hl) nodef, fun B S H σ ρ Kc Q I hlim hf hq => ?_⟩
  refine ⟨L.tabs _ _ I.j, fun H1 f k' pm ct gr hfn hk' => ?_⟩
  obtain ⟨I1, m1⟩ := I.grew L gr
  obtain ⟨I2, m2⟩ := I1.laysF (u := objX f (lamO X params body scope pm ct k')) hfn
  have hk2 : (upd H1 f (objX f (lamO X params body scope pm ct k'))) k' = some (CodeO k' (X.env.qual ++ "<lambda>")) := by rw [upd_ne (ne_of_none hk' hfn)]; exact hk'
  obtain ⟨S3, I3, m3, e3⟩ := I2.seeX hk2
  exact hq _ _ S3 ρ _ I3 ((m1.trans m2).trans m3) (fun _ => rfl) (.fn (m3.ot _ _ rfl rfl Fz.put_same) e3) (hf _ ⟨params, body, scope, pm, ct, k', kb, cb, rfl, lamS_by hl, bind, hb⟩)
theorem e_caughtV {x a ch er b : Str} {g : Addr} {fd : FuncData} {pg : Arguments} {sg : Scope} {k : Nat} {e : Expr} {ca : Bool} {na : Nat} {fa : FE} {p pos : Pos} {j : Nat} {p0 p1 p2 p3 p4 p5 p6 p7 p8 p9 p10 p11 p12 p13 : Pos}
    (CB : CaughtB G X.K X.mg b) (F : FunD X.K x x pg [.Assign [.Name ch p0] (.Constant .none j p1) p2, .Try [.Expr (.Call (.Name a p3) [] [] p4) p5] [.ExceptHandler (some (.Name b p6)) (some er) [.Assign [.Name ch p7] (.Name er p8) p9] p10] [] [] p11, .Return (some (.Name ch p12)) p13] sg [] [] g fd)
    (gF : X.mg x = some (.ref g)) (bF : Binds X.K fd [a] []) (sc : FnScope [a, ch, er] [a] sg) (hr : Room (k + 2) X.A) (gd : X.A.guards = some []) (ha : PDe G X O e .st ca na fa)
    (he : starEach [e] X.env = (false, eval e X.env) :: starEach [] X.env := by rfl)
    (hg : Gl X x := by rfl) (hN : [a, ch, er].Nodup := by decide) (hge : sg.names.lookup b = some .globalImplicit := by rfl) (hde : (b == ("__debug__" : Str)) = false := by decide)
    (h0 : sg.names.lookup a = some .local := by rfl) (h1 : sg.names.lookup ch = some .local := by rfl) (h2 : sg.names.lookup er = some .local := by rfl) (hd1 : (ch == ("__debug__" : Str)) = false := by decide) (hc1 : (ch == ("__classdict__" : Str)) = false := by decide) (hd2 : (er == ("__debug__" : Str)) = false := by decide) (hc2 : (er == ("__classdict__" : Str)) = false := by decide)
    (hdx : (x == ("__debug__" : Str)) = false := by decide) (hda : (a == ("__debug__" : Str)) = false := by decide) (hca : (a == ("__classdict__" : Str)) = false := by decide) :
    PDe G X O (.Call (.Name x p) [e] [] pos) .st ca na (fCaughtV (JobX G X k) fa) := by
  obtain ⟨CS, hCS, hex⟩ := CB
  obtain ⟨ta, pa, qa⟩ := ha.run
  obtain ⟨oc, od, dV, kV, doc, pm0, an, cdv, ct0, osl, rfl, lk, hcg, _, _⟩ := F.ex
  refine ⟨_, pe_gaveX (Ng := [a, ch, er]) hg gF F.kp lk hcg bF sc rfl (.inl h0) (caught_gives hN hge hCS hde h1 h2 hd1 hc1 hd2 hc2) hr gd pa he hdx hda hca, fun B S H σ ρ0 Kc Q I hlim hf hq => ?_⟩
  refine qa B S H σ ρ0 _ _ I (by omega) hf fun v H1 S1 ρ d I1 m1 c1 r1 hh => ?_
  obtain ⟨fb, ⟨params, body, scope, pm, ct, k', kb, cb, ed, LS, bind, hb⟩, hf⟩ := hh
  subst ed
  have r1 : Den G X.K S1 v (.fn k' (X.env.qual ++ "<lambda>") (lamO X params body scope pm ct k')) := r1
  obtain ⟨f, rfl, s1, s2⟩ : ∃ f, v = .ref f ∧ S1 f = some (objX f (lamO X params body scope pm ct k')) ∧ S1 k' = some (CodeO k' (X.env.qual ++ "<lambda>")) := by
    cases r1 with
    | fn h1 h2 => exact ⟨_, rfl, h1, h2⟩
  refine ⟨f, k', params, body, scope, pm, ct, fun E σ H Q => ∃ xd t0, eCan G X.K (defO E xd t0) kb cb 0 (fb xd) σ H Q, rfl, I1.le _ _ s1, I1.le _ _ s2, LS, bind, fun A outer s H E g2 hr2 => ⟨fun pins s' σ H' Q I ⟨xd, t0, h⟩ => (can_pe (hb A outer s H E f k' xd t0 g2 hr2 (takes_of rfl rfl rfl rfl))).run pins s' σ H' Q I h⟩, ?_⟩
  have noOwn : ∀ {i : Nat} {o : Own}, (frzE [] ρ)[i]? = some (some (Slot.own o)) → False := fun {i o} e => by
    obtain ⟨d, z, _⟩ := frzE_at e
    cases z
  refine ⟨I1.le _ _ s1, fun x => Kc ρ x, S1.T, Bs.at H1 S1, S1, frzE [] ρ, fun _ _ => Kc ρ .non, ⟨I1.toSta.enter, .inl (Nat.le_refl _), fun n cls dx S' H' σ' x J l m _ dd hx => ?_, fun i d e => ?_, fun i o e => (noOwn e).elim, fun i j a o o' h _ => (noOwn h.1).elim, fun j a o e => by simp at e, fun i j a o o' h _ => (noOwn h.1).elim, fun i j a o o' e _ => by simp at e, by rw [frzE_len]; exact I1.len, fun i c fs e => (noOwn e).elim, fun _ z => nomatch z⟩, by have := m1.lo; omega, hf, fun v H' S' ρ' d J m _ _ hk => ?_⟩
  · have m0 : Sub 0 S1 S' := ⟨m.dk, m.ot, by have l : S'.T ≤ S1.T := l; omega⟩
    have I2 := I1.call J (.inl rfl) m0
    refine ⟨?_, fun e he => ?_⟩
    · cases x with
      | exc cc fs =>
        obtain ⟨C, fl, hec, rfl, _⟩ := dd
        exact hex cc C fl hec
      | _ => exact dd.elim
    · obtain ⟨C, fl, cc, S3, _, rfl, I3, m3, dn⟩ := I2.caught dd he
      exact hq _ _ S3 ρ x I3 ((m1.t0 m0).t0 m3) c1 dn hx
  · obtain ⟨d', ed, h⟩ := frzE_at e
    cases ed
    rcases h with h | ⟨o, _, hin, _⟩
    · exact I1.im i _ h
    · cases hin
  · have m0 : Sub 0 S1 S' := m
    exact hq .non H' S' ρ .non (I1.call J.toSta (.inl rfl) m0) (m1.t0 m0) c1 Den.non hk
end
end WL

/-! ZL: != of instances whose class has an own __eq__ and no own __ne__. -/
namespace WL
open PySem PySem.Spec PyProof.Rows L2
open PySem.W in
section
variable {M : Model} {prog : Program} {w : World} {A : Around} {E : Value → Shared → Prop} {s : Shared} {K : PySem.W.Frag} {x C f L : Addr} {ox : Obj} {od : Option Obj} {h₀ : Heap} {m : Str → Option Value} {b tb : Value}
theorem ifBound_objNe {args : List Value} {Q : Option Value → Shared → Prop} (X : K.In s.heap) (I : PySem.W.InstAt s.heap x ox C od) (hs : PySem.W.findIn K (.ref C) "__ne__" = some (some (.builtin "object.__ne__")))
    (h : wpAny M A (call (.builtin "object.__ne__") (.ref x :: args)) (fun v => Q (some v)) E s) : wpAny M A (callSpecialIfBound? (.ref x) "__ne__" args) Q E s := by
  simp only [callSpecialIfBound?, bindSpecialIfBound?]
  refine wpAny_holding (wpAny_bind (wpAny_bind (wpAny_bind (I.type.here ((PySem.W.looks_findIn X hs).here ?_)))))
  refine wpAny_bind (wpAny_askSetting (wpAny_ite ?_))
  have fin : wpAny M A (call (.builtin "object.__ne__") ([.ref x] ++ args) >>= fun v => pure (some v)) Q E s := wpAny_bind (wpAny_mono h (fun v s' h' => wpAny_pure h') fun _ _ h' => h')
  split
  · exact wpAny_bind (wpAny_of_eq (F.cmp_object.ne.bind _) (wpAny_pure (by exact fin)))
  · exact wpAny_tryCatch (wpAny_bind (wpAny_of_eq (F.cmp_object.ne.bind _) (wpAny_pure (by exact fin))))
theorem entry_objNe (hu : A.units < cLine) (X : K.In s.heap) (I : PySem.W.InstAt s.heap x ox C od) (he : PySem.W.findIn K (.ref C) "__eq__" = some (some (.ref f))) (hf : PySem.W.isFn K (.ref f) = true) {Q : Fin → Shared → Prop}
    (hcall : wpAny (model prog w) A (call (.ref f) [.ref x, b]) (fun v s' => ∃ r : Bool, v = .bool r ∧ Q (.done (.ret (.bool (!r)))) s') E s) : wpAny (model prog w) A (Builtin.«object.__ne__» ⟨[.ref x, b], []⟩) Q E s := by
  unfold Builtin.«object.__ne__»
  repeat (first
    | with_reducible refine wpAny_cRoomFor hu ?_
    | (refine wpAny_bind (m := callSpecialIfBound? (.ref x) (Str.ofString "__eq__") [b])
        (PySem.W.ifBound_K X I he hf (wpAny_mono hcall (fun v s' hr => by
          obtain ⟨r, rfl, hq⟩ := hr
          repeat (first | exact hq | exact wpAny_pure hq | exact wpAny_truthy_bool hq | (refine wpAny_bind (m := truthy (.bool _)) (wpAny_truthy_bool ?_)) | wp_step)) fun _ _ e => e)))
    | wp_step)
theorem call_objNe (hu : A.units + 1 < cLine) (X : K.In s.heap) (I : PySem.W.InstAt s.heap x ox C od) (hm : PySem.W.mroIn K C (.type "object") = some true) (he : PySem.W.findIn K (.ref C) "__eq__" = some (some (.ref f))) (hf : PySem.W.isFn K (.ref f) = true) {Q : Value → Shared → Prop}
    (hcall : wpAny (model prog w) A.in1 (call (.ref f) [.ref x, b]) (fun v s' => ∃ r : Bool, v = .bool r ∧ Q (.bool (!r)) s') E s) : wpAny (model prog w) A (call (.builtin "object.__ne__") [.ref x, b]) Q E s :=
  wpAny_call (codeAny_call_builtin F.cmp_object.ne.plain F.cmpEntry_ne (PySem.W.check_slot F.cmpKind_ne F.cmpSplit_ne (I.type.andThen (PySem.W.looks_mroIn X hm)) (F.cmpArgs_ne _ _)
    (entry_objNe (A := A.in1) hu X I he hf hcall)))
theorem ne_K {Q : Value → Shared → Prop} (hu : A.units + 1 < cLine) (F : Fr h₀ L s.heap m) (X₀ : K.In h₀) (I : PySem.W.InstAt s.heap x ox C od) (hb : PySem.W.Looks (model prog w) s.heap (typeOf b) tb) (hn : PySem.W.notFirst K C tb = true)
    (hs : PySem.W.findIn K (.ref C) "__ne__" = some (some (.builtin "object.__ne__"))) (hm : PySem.W.mroIn K C (.type "object") = some true) (he : PySem.W.findIn K (.ref C) "__eq__" = some (some (.ref f))) (hf : PySem.W.isFn K (.ref f) = true)
    (hcall : wpAny (model prog w) A.in1 (call (.ref f) [.ref x, b]) (fun v s' => ∃ r : Bool, v = .bool r ∧ Q (.bool (!r)) s') E s) : wpAny (model prog w) A (richCompare .NotEq (.ref x) b) Q E s := by
  have X := X₀.keeps F.keep
  have one : wpAny (model prog w) A (tryCompare (.ref x) (cmpInfo .NotEq).2.1 b) (fun r s' => ∃ v, r = some v ∧ Q v s') E s := by
    rw [cmpInfo_NotEq]
    unfold tryCompare
    refine wpAny_bind (ifBound_objNe X I hs (call_objNe hu X I hm he hf (wpAny_mono hcall (fun v s' hv => ?_) fun _ _ e => e)))
    obtain ⟨r, rfl, hq⟩ := hv
    exact ⟨r, rfl, wpAny_pure ⟨_, rfl, hq⟩⟩
  unfold richCompare
  simp only [oneThing_ref]
  refine wpAny_holding (wpAny_bind (wpAny_cRoomFor (Nat.lt_of_succ_lt hu) ?_))
  refine wpAny_bind (I.type.here (wpAny_bind (hb.here ?_)))
  split
  · rename_i q
    have e : PySem.W.subIn K tb (.ref C) = some false := by
      rcases Bool.or_eq_true_iff.mp hn with e | e
      · rw [beq_iff_eq.mp e] at q; simp at q
      · exact beq_iff_eq.mp e
    refine wpAny_bind ((PySem.W.looks_subIn X e).here ?_)
    simp only [Bool.false_eq_true, if_false]
    refine wpAny_bind (wpAny_mono one (fun r s' z => ?_) fun _ _ e => e)
    obtain ⟨v, rfl, hq⟩ := z
    exact wpAny_pure hq
  · refine wpAny_bind (wpAny_pure ?_)
    simp only [Bool.false_eq_true, if_false]
    refine wpAny_bind (wpAny_mono one (fun r s' z => ?_) fun _ _ e => e)
    obtain ⟨v, rfl, hq⟩ := z
    exact wpAny_pure hq
end
/-- what != asks of the class -/
structure NeB (K : PySem.W.Frag) (C : Addr) : Prop where
  ne : PySem.W.findIn K (.ref C) "__ne__" = some (some (.builtin "object.__ne__"))
  mr : PySem.W.mroIn K C (.type "object") = some true
theorem mkNe {K : PySem.W.Frag} {cs : List (Str × List Str)} {c : Nat} {x : Str} {ns : List Str} (hc : cs[c]? = some (x, ns)) (h : neB x K = true) : ∀ C ns, ctOf K cs c = some (C, ns) → NeB K C := fun C ns e => by
  unfold ctOf at e
  rw [hc] at e
  cases e
  obtain ⟨h1, h2⟩ := He.ba h
  exact ⟨of_decide_eq_true h1, of_decide_eq_true h2⟩
section
variable {X : Cx} {k : Nat} {f C : Addr} {fd : FuncData} {ps : List Str} {sp : Sp} {pins : List (Addr × Obj)} {σ : L2.St} {H : Hp} {s : Shared}
end
section
variable {G : Glob} {X : Cx} {O : XO} {a b e : Expr} {ka kb : Kd} {ca cb : Bool} {na nb : Nat} {fa fb : FE} {pos p : Pos} {k j : Nat} {m : Spc} {cc : Nat}
def fNeO (cc : Nat) (m : Spc) (fa fb : FE) : FE := fun ρ Kc => fa ρ fun ρ1 x => fb ρ1 fun ρ2 y => (∃ fs, x = .ins cc fs) ∧ (∃ gs, y = .ins cc gs) ∧ m.pre [x, y] ∧ ∀ d, m.post [x, y] d → ∃ r : Bool, d = .bl r ∧ Kc ρ2 (.bl (!r))
theorem t_eqO (F : Mt G X.prog X.w X.K X.mg X.base cc "__eq__" k false m []) (hr : Room j X.A) (hgd : X.A.guards = some []) (hk : k ≤ j) (ha : PDe G X O a .st ca na fa) (hb : PDe G X O b .st cb nb fb) (hm : behindInMarks .Eq b = false := by rfl) (hm2 : m.ar = 2 := by rfl) (hc0 : m.cost = 0 := by rfl) (hex : ∀ ds x, ¬ m.exc ds x := by exact fun _ _ z => z) :
    PDt G X O (.Compare a [.Eq] [b] pos) (ca && cb) (na + nb) (fT (fEqO cc m fa fb)) := by
  obtain ⟨C, f, fd, ps, ns, hF, hct, cl, mt, hbd, hl⟩ := F.plain
  obtain ⟨ta, pa, qa⟩ := ha.run
  obtain ⟨tb, pb, qb⟩ := hb.run
  refine ⟨_, pt_cmpR (op_eqO mt hF (hr.mono hk) hgd hbd) pa pb hm, t_test (k := .st) (fun B S H σ ρ Kc Q I hbT hf hq => ?_) fun _ _ _ h => h⟩
  refine qa B S H σ ρ _ _ I (by omega) hf fun v H1 S1 ρ1 x I1 m1 c1 r1 h1 => ?_
  refine qb B S1 H1 σ ρ1 _ _ I1 (by have := m1.lo; omega) h1 fun w H2 S2 ρ2 y I2 m2 c2 r2 h2 => ?_
  have r1' : Den G X.K S2 v x := Den.mono m2 r1
  obtain ⟨⟨fs, rfl⟩, ⟨gs, rfl⟩, hp, hpost⟩ := h2
  obtain ⟨a', C', dx, vs, ns', rfl, hS, hct'⟩ := ins_den r1'
  rw [hct] at hct'; cases hct'
  obtain ⟨b', C', dy, ws, ns', rfl, hS2, hct'⟩ := ins_den r2
  rw [hct] at hct'; cases hct'
  exact ⟨a', b', dx, dy, vs, ws, rfl, rfl, I2.le _ _ hS, I2.le _ _ hS2, callO (by rw [hl, hm2]; rfl) I2 (by have := m1.lo; have := m2.lo; omega) hc0 hex (.cons r1' (.cons r2 .nil)) hp hpost fun z H3 S3 d I3 m3 r3 h3 => hq z H3 S3 ρ2 d I3 ((m1.trans m2).t0 m3) (fun z => by
    have := Bool.and_eq_true_iff.mp z
    rw [c2 this.2, c1 this.1]) r3 h3⟩
end
end WL

/-! ZM: o.m(k=e, ..), a method called with keywords alone. -/
namespace WL
open PySem PySem.Spec PyProof.Rows L2
section
variable {X : Cx} {k : Nat} {f C : Addr} {fd : FuncData} {ps ks : List Str} {sp : Sp} {E : L2.St → XK} {m : Str} {apos pos : Pos} {o : Expr} {kws : List Keyword} {ta : TE} {tk : TA} {g : List Value → List Value → List Value} {gV : List V → List V → List V}
end
structure MtK (G : Glob) (P : Program) (w : World) (K : PySem.W.Frag) (mg : Str → Option Value) (base : Heap) (cc : Nat) (nm : Str) (k : Nat) (rk : Bool) (m : Spc) (ks : List Str) (gD : List D → List D → List D) : Prop where
  ex : ∃ (C f : Addr) (fd : FuncData) (ps : List Str) (g : List Value → List Value → List Value) (gV : List V → List V → List V) (ns : List Str), FnG P w K mg base k f fd ps (spD G K rk ps.length m) ∧ G.ct cc = some (C, ns) ∧ nm ∉ ns ∧ Cls K C ∧ Meth K C nm f ∧ KBn K fd ps 1 ks g gV ∧
    (∀ (S : Fz) vs zs ds es, DenL G K S vs ds → DenL G K S zs es → vs.length = 1 → zs.length = ks.length → DenL G K S (gV vs zs) (gD ds es) ∧ (gV vs zs).length = ps.length)
section
variable {G : Glob} {P : Program} {w : World} {K : PySem.W.Frag} {mg : Str → Option Value} {base : Heap} {cs : List (Str × List Str)} {fs : List Str} {c k : Nat} {x : Str} {ns : List Str} {m : Spc}
end
def fMethK (cc : Nat) (xd : D → Prop) (m : Spc) (j : Nat) (gD : List D → List D → List D) (fo : FE) (fk : FA) : FE := fun ρ Kc => fo ρ fun ρ1 x => (∃ fs, x = .ins cc fs) ∧ fk ρ1 fun ρ2 es => es.length = j ∧ m.pre (gD [x] es) ∧ (∀ d, m.post (gD [x] es) d → Kc ρ2 d) ∧ ∀ z, m.exc (gD [x] es) z → xd z
section
variable {G : Glob} {X : Cx} {O : XO} {rk : Bool} {nm : Str} {apos pos : Pos} {o : Expr} {kws : List Keyword} {k j cc : Nat} {m : Spc} {ks : List Str} {gD : List D → List D → List D} {co cb : Bool} {no nb : Nat} {fo : FE} {fk : FA}
end
end WL

/-! ZN: list(range(n)); x[i], x[j] = e for an own list. -/
namespace WL
open PySem PySem.Spec PyProof.Rows L2
def opListRg (d : D) (P : D → Prop) : Prop := match d with
  | .int i => (0 ≤ i ∧ i ≤ 16777216) ∧ P (.lst (rngD 0 i.toNat))
  | _ => False
section
variable {G : Glob} {X : Cx} {O : XO} {a : Expr} {p p2 pos pos2 : Pos} {ca : Bool} {na : Nat} {fa : FE}
end
section
variable {G : Glob} {X : Cx} {O : XO} {rk : Bool} {e k1 k2 : Expr} {c c1 c2 : Bool} {n n1 n2 : Nat} {f f1 f2 : FE} {x : Str} {pos np np2 p1 p2 p3 : Pos} {kk : Nat}
def fSwapL (i : Nat) (f f1 f2 : FE) : FS := fun Ed ρ => f ρ fun ρ1 d => match d with
  | .tup [v, w] => ownL ρ1 i fun _ => f1 ρ1 fun ρ2 d1 => ownL ρ2 i fun xs => ∃ (a : Int) (j : Nat), d1 = .int a ∧ ixN xs.length a = some j ∧
      f2 (ρ2.set i (some (.own (.lst (xs.set j v))))) fun ρ3 d2 => ownL ρ3 i fun ys => ∃ (b : Int) (l : Nat), d2 = .int b ∧ ixN ys.length b = some l ∧ Ed.nx (ρ3.set i (some (.own (.lst (ys.set l w)))))
  | _ => False
theorem paired_set {α β : Type} {F : α → β → Prop} {a : α} {b : β} (r : F a b) : ∀ {l : List α} {m : List β}, Paired F l m → ∀ j, Paired F (l.set j a) (m.set j b)
  | _, _, .nil, _ => .nil
  | _, _, .cons h t, 0 => .cons r t
  | _, _, .cons h t, j + 1 => .cons h (paired_set r t j)
end
end WL

/-! ZO: the law's def when its own rows make lambdas: the reading may name the memory of the draws. -/
namespace WL
open PySem PySem.Spec PyProof.Rows L2 LamX
end WL

/-! ZP: own operators (|, -, >>) that may raise. -/
namespace WL
open PySem PySem.Spec PyProof.Rows L2
section
variable {X : Cx} {k : Nat} {f C : Addr} {fd : FuncData} {ps : List Str} {sp : Sp} {a b : Expr} {ta tb : TE} {pos : Pos}
end
section
variable {G : Glob} {X : Cx} {O : XO} {a b e : Expr} {ka kb : Kd} {ca cb : Bool} {na nb : Nat} {fa fb : FE} {pos p : Pos} {k j : Nat} {m : Spc} {cc : Nat}
def fBinX (cc : Nat) (xd : D → Prop) (m : Spc) (fa fb : FE) : FE := fun ρ Kc => fa ρ fun ρ1 x => fb ρ1 fun ρ2 y => (∃ fs, x = .ins cc fs) ∧ ((∃ z, y = .str z) ∨ ∃ gs, y = .ins cc gs) ∧ m.pre [x, y] ∧ (∀ d, m.post [x, y] d → Kc ρ2 d) ∧ ∀ z, m.exc [x, y] z → xd z
end
end WL

/-! ZQ: dict(zip(keys, values)) of two lists of one length. -/
namespace WL
open PySem PySem.Spec PyProof.Rows L2
section
variable {X : Cx} {e e2 : Expr} {ta : TA} {pd p pos dpos : Pos}
end
section
variable {G : Glob} {X : Cx} {O : XO} {e e2 : Expr} {n : Nat} {c : Bool} {fa : FA} {pd p pos dpos : Pos}
def fDicZip (fa : FA) : FE := fun ρ Kc => fa ρ fun ρ1 ds => match ds with
  | [.lst xs, .lst ys] => ∃ ps : List (D × D), xs = ps.map (·.1) ∧ ys = ps.map (·.2) ∧ keysOk ps = true ∧ Kc ρ1 (.dct (mergeD ps))
  | _ => False
end
end WL

/-! ZR: C(..) where the last value lacks and the default is (). -/
namespace WL
open PySem PySem.Spec PyProof.Rows L2
theorem tup0_ok {a : PySem.W.Frag → Addr} {K : PySem.W.Frag} (h : tup0B a K = true) : ∀ H, SqT K H (a K) [] := fun H => by
  unfold tup0B at h
  split at h
  · rename_i t _ its n _ e
    simp only [Bool.and_eq_true, beq_iff_eq] at h
    obtain ⟨rfl, h2⟩ := h
    have : its = #[] := Array.size_eq_zero_iff.mp h2
    subst this
    exact .inr ⟨_, _, _, e, rfl, rfl, Nat.zero_le _, .nil⟩
  · cases h
end WL

/-! ZS: == and != of an instance (left) and a datum of a built-in type (right). -/
namespace WL
open PySem PySem.Spec PyProof.Rows L2
theorem mro_built {T : String} (h : T ∈ tyNs) (C : Addr) : (PySem.fastBuiltinMro T).map (·.contains (Value.ref C)) = some false := by
  simp only [tyNs, List.mem_cons, List.not_mem_nil, or_false] at h
  rcases h with rfl | rfl | rfl | rfl | rfl | rfl | rfl <;> rfl
theorem notFirst_built {K : PySem.W.Frag} {T : String} (h : T ∈ tyNs) (C : Addr) : PySem.W.notFirst K C (.type T) = true := by
  unfold PySem.W.notFirst PySem.W.subIn
  dsimp only
  rw [mro_built h C]
  simp
section
variable {X : Cx} {k : Nat} {f C : Addr} {fd : FuncData} {ps : List Str} {sp : Sp} {pins : List (Addr × Obj)} {σ : L2.St} {H : Hp} {s : Shared}
abbrev TyY (K : PySem.W.Frag) (H : Hp) (y : V) (T : String) : Prop := TyX K H y (.type T) ∨ ∃ a o kvs, y = .ref a ∧ H a = some (.frz o (.dT kvs)) ∧ Value.type T = .type "dict"
theorem callEq_runY {A : Around} (F : FnG X.prog X.w X.K X.mg X.base k f fd ps sp) (hr : Room k A) (hfr : A.frames = X.A.frames) (hgd : A.guards = some []) (hb : Binds X.K fd ps []) (I : Inv X pins σ H s) {a : Addr} {y : V} {u : Value} (ry : RelV y u) {Q : VK} (h : sp [.ref a, y] H Q xNone) :
    wpAny (model X.prog X.w) A (call (.ref f) [.ref a, u]) (EP X pins σ Q) X.xe s := by
  have e0 : Env0 X.prog X.w X.K X.mg X.base A X.stack s H := by
    have e := I.env0
    exact ⟨by rw [hfr]; exact e.frames, e.mod, e.bs, e.bsz, e.funs, e.frf, e.hok, e.bare⟩
  have hl := F.len _ _ _ _ h
  have r2 : Vals [V.ref a, y] [Value.ref a, u] := .cons rfl (.cons ry .nil)
  refine wpAny_call (codeAny_mono (F.run A X.stack s H ⟨[.ref a, u], []⟩ [.ref a, u] [.ref a, y] Q _ hr hgd e0 (by
    have := hb s [.ref a, u] I.kIn (by simpa using hl)
    simpa using this) r2 h) fun r s' hq => ?_)
  match r, hq with
  | .error e, hq => exact passF (X := X) (σ := σ) pins H s e s' I hq
  | .ok (.ret u), hq => exact I.after hq
  | .ok .next, hq => exact hq.elim
  | .ok .brk, hq => exact hq.elim
  | .ok .cont, hq => exact hq.elim
def rNeY (K : PySem.W.Frag) (C : Addr) (sp : Sp) (neg : Bool) : R2 := fun x y H Q => ∃ a dx fs T, x = .ref a ∧ H a = some (.ins C dx fs) ∧ T ∈ tyNs ∧ TyY K H y T ∧ sp [x, y] H (fun z H' => ∃ r : Bool, z = .bl r ∧ Q (.bl (if neg then !r else r)) H') xNone
theorem op_neY (nb : NeB X.K C) (hm : Meth X.K C "__eq__" f) (F : FnG X.prog X.w X.K X.mg X.base k f fd ps sp) (hr : Room (k + 1) X.A) (hgd : X.A.guards = some []) (hb : Binds X.K fd ps []) : OpR X (compareOp .NotEq) (rNeY X.K C sp true) := by
  intro pins s σ H x y v u Q I rx ry h
  obtain ⟨a, dx, fs, T, rfl, ha, hT, ty, h⟩ := h
  obtain rfl : v = Value.ref a := rx
  obtain ⟨mA, J, _⟩ := ins_get I.hok ha
  obtain ⟨od, J, _⟩ := J.look
  obtain ⟨m, hF⟩ := I.fr
  obtain ⟨P, Z, p, _⟩ := kit_any I ry ty
  refine ne_K (by have := hr.units0; have := hr.un; omega) hF I.ok.mod.kin J (Z.ty _ _ I.kIn p) (notFirst_built hT C) nb.ne nb.mr hm.at_ hm.fn ?_
  refine wpAny_mono (callEq_runY F hr.in1 rfl hgd hb I ry h) (fun v s' hq => ?_) fun _ _ z => z
  obtain ⟨w, H', I', rw', r, rfl, q⟩ := hq
  exact ⟨r, rw', .bl (!r), H', I', rfl, q⟩
end
section
variable {G : Glob} {X : Cx} {O : XO} {a b e : Expr} {ka kb : Kd} {ca cb : Bool} {na nb : Nat} {fa fb : FE} {pos p : Pos} {k j : Nat} {m : Spc} {cc : Nat}
def fNeY (neg : Bool) (cc : Nat) (m : Spc) (fa fb : FE) : FE := fun ρ Kc => fa ρ fun ρ1 x => fb ρ1 fun ρ2 y => (∃ fs, x = .ins cc fs) ∧ (tyN y).isSome = true ∧ m.pre [x, y] ∧ ∀ d, m.post [x, y] d → ∃ r : Bool, d = .bl r ∧ Kc ρ2 (.bl (if neg then !r else r))
theorem e_neY_core {neg : Bool} {C : Addr} {pn : List Str} {ns : List Str} (hct : G.ct cc = some (C, ns)) (hl : pn.length = m.ar) {op : CmpOp} (hop : OpR X (compareOp op) (rNeY X.K C (spD G X.K false pn.length m) neg)) (ha : PDe G X O a .st ca na fa) (hb : PDe G X O b .st cb nb fb) (hm : behindInMarks op b = false) (hm2 : m.ar = 2) (hc0 : m.cost = 0) (hex : ∀ ds x, ¬ m.exc ds x) :
    PDe G X O (.Compare a [op] [b] pos) .st (ca && cb) (na + nb) (fNeY neg cc m fa fb) := by
  obtain ⟨ta, pa, qa⟩ := ha.run
  obtain ⟨tb, pb, qb⟩ := hb.run
  refine ⟨_, pe_cmpR hop pa pb hm, fun B S H σ ρ Kc Q I hbT hf hq => ?_⟩
  refine qa B S H σ ρ _ _ I (by omega) hf fun v H1 S1 ρ1 x I1 m1 c1 r1 h1 => ?_
  refine qb B S1 H1 σ ρ1 _ _ I1 (by have := m1.lo; omega) h1 fun w H2 S2 ρ2 y I2 m2 c2 r2 h2 => ?_
  have r1' : Den G X.K S2 v x := Den.mono m2 r1
  obtain ⟨⟨fs, rfl⟩, hty, hp, hpost⟩ := h2
  obtain ⟨T, et⟩ := Option.isSome_iff_exists.mp hty
  obtain ⟨a', C', dx, vs, ns', rfl, hS, hct'⟩ := ins_den r1'
  rw [hct] at hct'; cases hct'
  refine ⟨a', dx, vs, T, rfl, I2.le _ _ hS, tyN_mem et, tyN_ok (k := .st) I2 r2 et, callO (Kc := fun d => ∃ r : Bool, d = .bl r ∧ Kc ρ2 (.bl (if neg then !r else r))) (by rw [hl, hm2]; rfl) I2 (by have := m1.lo; have := m2.lo; omega) hc0 hex (.cons r1' (.cons r2 .nil)) hp hpost fun z H3 S3 d I3 m3 r3 h3 => ?_⟩
  obtain ⟨r, rfl, h3⟩ := h3
  have r3 : Den G X.K S3 z (.bl r) := r3
  obtain rfl := Den.bl_inv r3
  exact ⟨r, rfl, hq _ H3 S3 ρ2 _ I3 ((m1.trans m2).t0 m3) (fun z => by
    have := Bool.and_eq_true_iff.mp z
    rw [c2 this.2, c1 this.1]) (Den.bl _) h3⟩
theorem e_neY (F : Mt G X.prog X.w X.K X.mg X.base cc "__eq__" k false m []) (hN : ∀ C ns, G.ct cc = some (C, ns) → NeB X.K C) (hr : Room j X.A) (hgd : X.A.guards = some []) (hk : k + 1 ≤ j) (ha : PDe G X O a .st ca na fa) (hb : PDe G X O b .st cb nb fb) (hm : behindInMarks .NotEq b = false := by rfl) (hm2 : m.ar = 2 := by rfl) (hc0 : m.cost = 0 := by rfl) (hex : ∀ ds x, ¬ m.exc ds x := by exact fun _ _ z => z) :
    PDe G X O (.Compare a [.NotEq] [b] pos) .st (ca && cb) (na + nb) (fNeY true cc m fa fb) := by
  obtain ⟨C, f, fd, ps, ns, hF, hct, cl, mt, hbd, hl⟩ := F.plain
  exact e_neY_core hct hl (op_neY (hN _ _ hct) mt hF (hr.mono hk) hgd hbd) ha hb hm hm2 hc0 hex
end
end WL

/-! ZT: x[y] by an own __getitem__ that may raise; x - y by an own __sub__ that may raise, y of any built-in type. -/
namespace PySem.W
open PySem PyProof.Rows
section
variable {prog : Program} {w : World} {A : Around} {E : Value → Shared → Prop} {s : Shared} {K : Frag} {x C f L : Addr} {ox : Obj} {od : Option Obj} {h₀ : Heap} {m : Str → Option Value} {T : String}
end
end PySem.W
namespace WL
open PySem PySem.Spec PyProof.Rows L2
section
variable {X : Cx} {k : Nat} {f C : Addr} {fd : FuncData} {ps : List Str} {sp : Sp} {a b : Expr} {ta tb : TE} {pos : Pos}
end
section
variable {G : Glob} {X : Cx} {O : XO} {a b e : Expr} {ka kb : Kd} {ca cb : Bool} {na nb : Nat} {fa fb : FE} {pos p : Pos} {k j : Nat} {m : Spc} {cc : Nat}
def fSubY (cc : Nat) (xd : D → Prop) (m : Spc) (fa fb : FE) : FE := fun ρ Kc => fa ρ fun ρ1 x => fb ρ1 fun ρ2 y => (∃ fs, x = .ins cc fs) ∧ (tyN y).isSome = true ∧ m.pre [x, y] ∧ (∀ d, m.post [x, y] d → Kc ρ2 d) ∧ ∀ z, m.exc [x, y] z → xd z
def fIxX (cc : Nat) (xd : D → Prop) (m : Spc) (fa fb : FE) : FE := fun ρ Kc => fa ρ fun ρ1 x => fb ρ1 fun ρ2 y => (∃ fs, x = .ins cc fs) ∧ m.pre [x, y] ∧ (∀ d, m.post [x, y] d → Kc ρ2 d) ∧ ∀ z, m.exc [x, y] z → xd z
end
end WL

/-! ZU: classes made with keywords alone. -/
namespace WL
open PySem PySem.Spec PyProof.Rows L2
/-- the values of a row of parameters behind the first one, by their places -/
def selfIx {α : Type} (ix : List Nat) : List α → List α → List α
  | [], _ => []
  | v :: us, ws => v :: permIx ix us ws
section
variable {G : Glob} {P : Program} {w : World} {K : PySem.W.Frag} {mg : Str → Option Value} {base : Heap} {cs : List (Str × List Str)} {fs : List Str} {x : Str} {ns : List Str} {k c n : Nat} {m : Spc}
end
section
variable {X : Cx} {k n : Nat} {f C : Addr} {fd : FuncData} {ps ks : List Str} {sp : Sp} {E : L2.St → XK} {x : Str} {p pos : Pos} {kws : List Keyword} {tk : TA} {g : List Value → List Value → List Value} {gV : List V → List V → List V}
theorem pe_makeGK0 (M : Mk X.K C f) (F : FnG X.prog X.w X.K X.mg X.base k f fd ps sp) (hr : Room (k + 1) X.A) (hgd : X.A.guards = some []) (hg : Gl X x) (hm : X.mg x = some (.ref C)) (hb : KBn X.K fd ps (0 + 1) ks g gV) (hx : ∀ σ, PassesAt (L2.CX X.prog X.w) X σ (E σ))
    (hkw : PK X kws tk) (hall : (backToKw pos (keywordEach kws X.env)).all (·.1.isSome) = true) (hks : (backToKw pos (keywordEach kws X.env)).filterMap (·.1) = ks)
    (hdb : (x == ("__debug__" : Str)) = false) (hpl : ((backTo pos (starEach [] X.env)).any (·.1) || (backToKw pos (keywordEach kws X.env)).any (·.1.isNone)) = false) :
    PE X (.Call (.Name x p) [] kws pos) (tMakeGK C 0 ks.length sp gV E tNil tk) := by
  refine ⟨fun pins s σ H Q I h => ?_⟩
  refine wpAny_Call_Name_kw (ld_glob I hg hm ?_ hdb)
  refine PySem.W.callWith_KW0 (h₀ := X.base) I.ok.mod.kin M.kp hall ?_ hpl
  refine thn (hkw.run pos pins s σ H _ I h) fun ws s2 ⟨zs, H2, I2, rz, l1, l2, q2⟩ => ⟨I2.kIn, ?_⟩
  rw [hks]
  exact run_makeGK (us := []) M F hr hgd hb (hx σ) I2 .nil rz l1 l2 q2
end
section
variable {G : Glob} {X : Cx} {O : XO} {x : Str} {p pos : Pos} {kws : List Keyword} {k j cc : Nat} {m : Spc} {ks : List Str} {gD : List D → List D → List D} {cb : Bool} {nb : Nat} {fk : FA}
theorem e_makeK0 (F : MkIK G X.prog X.w X.K X.mg X.base x k m cc 0 ks gD) (hr : Room (j + 1) X.A) (hgd : X.A.guards = some []) (hk : k ≤ j) (tk : Lets X O) (hb : PDk G X O kws cb nb fk) (hx0 : m.cost = 0 ∨ ∀ x, ¬ O.xd x := by first | exact .inl rfl | exact .inr fun _ z => z) (hg : Gl X x := by rfl)
    (hall : (backToKw pos (keywordEach kws X.env)).all (·.1.isSome) = true := by rfl) (hks : (backToKw pos (keywordEach kws X.env)).filterMap (·.1) = ks := by rfl) (hdb : (x == ("__debug__" : Str)) = false := by decide)
    (hpl : ((backTo pos (starEach [] X.env)).any (·.1) || (backToKw pos (keywordEach kws X.env)).any (·.1.isNone)) = false := by rfl) :
    PDe G X O (.Call (.Name x p) [] kws pos) .st (true && cb) (0 + nb + m.cost) (fCallK O.xd m 0 ks.length gD fNil fk) := by
  obtain ⟨C, f, fd, n0, ps, ns, g, gV, gV', M, F, hm, hct, hkb, hgv, hD⟩ := F.ex
  obtain ⟨E, hE, hW⟩ := tk.ex
  obtain ⟨t2, pb, qb⟩ := hb.run
  refine ⟨_, pe_makeGK0 M F (hr.mono (by omega)) hgd hg hm hkb hE pb hall hks hdb hpl, fun B S H σ ρ Kc Q I hb hf hq => ?_⟩
  refine qb B S H σ ρ _ _ I (by omega) hf fun zs H2 S2 ρ2 ys I2 m2 c2 r2 h2 => ?_
  obtain ⟨⟨l1, l2⟩, hp, hpost, hx⟩ := h2
  have l2' := r2.length.trans l2
  obtain ⟨r3, l3⟩ := hD S2 [] zs [] ys .nil r2 rfl l2'
  refine ⟨rfl, l2', fun y dy hy hdy hne => ?_⟩
  obtain ⟨sy, my, _⟩ := I2.toSta.new hy
  refine ⟨S2, gD [] ys, y, dy, C, ns, gV' [] zs, hgv _ _ _, l3, hct, upd_same, sy, my, I2.toSta.openI hy hdy hne, (by have := m2.lo; omega), r3, hp, fun H' S' fs J m' dn hpo => ⟨rfl, ?_⟩, fun n2 cls dx S' H' x' J l2 m' dd hxe => ?_⟩
  · exact hq _ H' S' ρ2 _ (I2.call (J.shutI hy hdy) hx0 m') ((Sub.trans (Sub.refl S) m2).trans m') (fun z => c2 (by simpa using z)) dn (hpost _ hpo)
  · rcases I2.tz with z | z
    · exact hW _ _ _ _ x' (hx x' hxe) (I2.xr n2 cls dx S' H' σ x' (I2.toSta.call (J.shutI hy hdy)) (Nat.le_trans l2 z) m' (fun _ _ => rfl) dd (hx x' hxe))
    · exact absurd (hx x' hxe) (z x')
end
end WL

/-! ZV: xs.count(y), xs.index(y): lists of plain values. -/
namespace WL
open PySem PySem.Spec PyProof.Rows L2
section
variable {X : Cx}
end
def cntF (y : D) (ds : List D) : Nat := ds.countP fun z => eqF z y
def fCntL (fa fb : FE) : FE := fun ρ Kc => fa ρ fun ρ1 x => match x with
  | .lst ds => fb ρ1 fun ρ2 y => (flatD y = true ∧ ds.all flatD = true) ∧ Kc ρ2 (.int (cntF y ds : Nat))
  | _ => False
/-- the first place of an item -/
def idxL (ds : List D) (y : D) (P : Nat → Prop) : Prop := (flatD y = true ∧ ds.all flatD = true) ∧ ∃ (j : Nat) (z : D), ds[j]? = some z ∧ eqF z y = true ∧ (∀ (m : Nat) (z' : D), m < j → ds[m]? = some z' → eqF z' y = false) ∧ P j
def fIdxL (fa fb : FE) : FE := fun ρ Kc => fa ρ fun ρ1 x => match x with
  | .lst ds => fb ρ1 fun ρ2 y => idxL ds y fun j => Kc ρ2 (.int (j : Nat))
  | _ => False
def gIdx (xs ys : List D) (P : List D → D → Prop) : Prop := match ys with
  | [y] => idxL xs y fun j => P xs (.int (j : Nat))
  | _ => False
section
variable {G : Glob} {K : PySem.W.Frag} {S : Fz}
end
section
variable {G : Glob} {K : PySem.W.Frag} {S : Fz}
end
section
variable {G : Glob} {X : Cx} {O : XO} {o e : Expr} {ka kb : Kd} {ca cb : Bool} {na nb : Nat} {fa fb : FE} {apos pos : Pos}
end
section
variable {G : Glob} {X : Cx} {O : XO} {e : Expr} {c : Bool} {n : Nat} {fs : FA} {apos p pos : Pos} {x : Str}
end
end WL

/-! ZW: a lambda handed to a def that hands it on to the def that calls it. -/
namespace WL
open PySem PySem.Spec PyProof.Rows L2 LamX
section
variable {X : Cx} {pinsX : List (Addr × Obj)} {σX : L2.St} {HX : Hp} {sX : Shared}
end
section
variable {G : Glob} {P : Program} {w : World} {K : PySem.W.Frag} {mg : Str → Option Value} {base : Heap} {N1 : List Str} {q1 : Str} {sc1 : Scope} {g1 : Addr} {cd1 : Value} {bg rest : List Stmt} {cexp : Expr} {k i : Nat} {m : Spc} {er : Str} {p1 p2 : Pos}
/-- slots behind the job's run: the job's own is not read any more -/
def startJ (n i : Nat) (d : D) (es : List D) : EnvD := (none :: (es.map fun x => some (Slot.imm x)) ++ List.replicate (n - 1 - es.length) none).set i (some (.imm d))
def startK (n : Nat) (es : List D) : EnvD := none :: (es.map fun x => some (Slot.imm x)) ++ List.replicate (n - 1 - es.length) none
end
/-- a def that runs what it got first; with the error (or None) it goes on -/
def fJob (J : D → ((D → Prop) → FE) → Prop) (m : Spc) (fa : FA) : FE := fun ρ Kc => fa ρ fun ρ1 ds => match ds with
  | j :: es => es.length + 1 = m.ar ∧ ∃ fb, J j fb ∧ fCaught fb ρ1 fun ρ2 d => m.pre (d :: es) ∧ ∀ r, m.post (d :: es) r → Kc ρ2 r
  | [] => False
section
variable {G : Glob} {X : Cx} {O : XO}
end
end WL

/-! ZX: t[::-1] of a tuple (or a list). -/
namespace HT
open PySem PySem.Spec PyProof.Rows L2
section
variable {prog : Program} {w : World} {A : Around} {E : Value → Shared → Prop} {s : Shared}
end
end HT
namespace L2
open PySem PySem.Spec PyProof.Rows
section
variable {X : Cx}
end
end L2
namespace WL
open PySem PySem.Spec PyProof.Rows L2
section
variable {G : Glob} {X : Cx} {O : XO} {a : Expr} {ca : Bool} {na : Nat} {fa : FE} {ka : Kd} {pos p p1 p2 p3 : Pos}
def opRevT (x : D) (P : D → Prop) : Prop := match x with
  | .tup xs => P (.tup xs.reverse)
  | _ => False
end
end WL

/-! ZY: xs[i] = v, a list of one's own. -/
namespace WL
open PySem PySem.Spec PyProof.Rows L2
section
variable {G : Glob} {X : Cx} {O : XO} {rk : Bool} {e k1 : Expr} {c c1 : Bool} {n n1 : Nat} {f f1 : FE} {x : Str} {pos np p1 : Pos}
def fSetI (i : Nat) (f f1 : FE) : FS := fun Ed ρ => f ρ fun ρ1 d => ownL ρ1 i fun _ => f1 ρ1 fun ρ2 d1 => ownL ρ2 i fun xs => ∃ (a : Int) (j : Nat), d1 = .int a ∧ ixN xs.length a = some j ∧ Ed.nx (ρ2.set i (some (.own (.lst (xs.set j d)))))
theorem s_setI (i : Nat) (he : PDe G X O e .st c n f) (hk1 : PDe G X O k1 .st c1 n1 f1) (hN : X.N[i]? = some x := by rfl) (hx : Vis X.env.scope x := by first | exact Or.inl rfl | exact Or.inr (Or.inl rfl) | exact Or.inr (Or.inr rfl))
    (hd : (x == ("__debug__" : Str)) = false := by decide) (hcd : (x == ("__classdict__" : Str)) = false := by decide)
    (hs : swapsWithSole [.Subscript (.Name x np) k1 p1] e pos.line X.env = pure false := by rfl) (hw : swappedStores [.Subscript (.Name x np) k1 p1] e X.env = pure none := by rfl)
    (h1 : List.map (fun x => x.snd) (assignEach [.Subscript (.Name x np) k1 p1] X.env) = [assign (.Subscript (.Name x np) k1 p1) X.env] := by rfl)
    (ha : ∀ v, assign (.Subscript (.Name x np) k1 p1) X.env v = (do
      let ov ← holding [v] (eval (.Name x np) X.env)
      let iv ← holding [v, ov] (eval k1 X.env)
      standAt p1
      holding [v, ov, iv] (setItem ov iv v)
      release [v, ov, iv] []) := by intro _; rfl) :
    PDs G X O rk (.Assign [.Subscript (.Name x np) k1 p1] e pos) (n + n1) (fSetI i f f1) := by
  obtain ⟨t0, q0, r0⟩ := he.run
  obtain ⟨t1, q1, r1⟩ := hk1.run
  refine ⟨_, ps_asg q0 (pg_sub (pe_var hN hx hd hcd) q1 set_list ha) hs hw h1, fun B S H σ ρ Ed D I hb h E => ?_⟩
  refine r0 B S H σ ρ _ _ I (by omega) h fun v H1 S1 ρ1 d I1 m1 c1 d1 h1 => ?_
  obtain ⟨xs0, e0, h1⟩ := h1
  obtain ⟨b, eb, _⟩ := I1.ow i _ e0
  refine ⟨.ref b, eb, ?_⟩
  refine r1 B S1 H1 σ ρ1 _ _ I1 (by have := m1.lo; omega) h1 fun u H2 S2 ρ2 dk I2 m2 c2 d2 h2 => ?_
  obtain ⟨xs, e3, ai, j, rfl, hj, h2⟩ := h2
  obtain ⟨b', eb', w2⟩ := I2.ow i _ e3
  have : b' = b := by rw [eb] at eb'; cases eb'; rfl
  subst this
  obtain ⟨us, hu, hl⟩ := w2.at_
  have d2 : Den G X.K S2 u (.int ai) := d2
  obtain rfl := d2.int_inv
  have d1 : Den G X.K S1 v d := d1
  refine ⟨b', us, ai, j, rfl, rfl, hu, by rw [hl.length]; exact hj, ?_⟩
  have I3 := I2.chgSlot (i := i) (a := b') (o := .lst xs) (o' := .lst (xs.set j d)) (u := .lst (us.set j v)) ⟨e3, eb⟩ ⟨_, upd_same, paired_set (Den.mono m2 d1) hl j⟩
  exact E.nx _ _ _ _ I3 (m1.trans m2) h2
end
end WL

/-! ZZ: len(set(xs)), xs a list or tuple of texts. -/
namespace WL
open PySem PySem.Spec PyProof.Rows L2
section
variable {P : Program} {w : World} {A : Around} {E : Value → Shared → Prop} {s : Shared}
/-- set(l), l a tuple of texts -/
theorem txs_callT {l : Addr} {its : Array Value} (xs : List Str) {Q : Value → Shared → Prop} (unh : A.handled = none) (hl : s.heap.IsTuple l its) (are : StrsAre its.toList xs) (small : xs.length + 1 < scanBound)
    (fin : ∀ (h' : Heap) (tk : Nat), TxS w h' s.heap.objs.size (uniq xs) → (∀ b o, s.heap.get? b = some o → h'.get? b = some o) → Q (.ref s.heap.objs.size) { s with heap := h', toks := tk }) :
    wpAny (model P w) A (call (.type "set") [.ref l]) Q E s := by
  have size : its.size = xs.length := by rw [← StrsAre.len_eq are, Array.length_toList]
  obtain ⟨cl, tl, mro⟩ := F.called_set.mro
  have f1 := F.called_set.made
  have f2 := F.called_set.sub
  refine wpAny_call (codeAny_of_tree ?_)
  show wpAny _ _ (callAny (.type "set") _) _ _ s
  refine wpAny_pure ⟨Code.quiet_builtin _ (by decide +kernel), codeAny_builtin F.entry_type_call ?_⟩
  rw [Around.under_plain (weight_type_call_type "set" [.ref l] []) rfl]
  have f3 := F.called_set.notType
  have f4 := F.called_set.canCreate
  have f5 := F.typeCall_set_1 (.ref l)
  repeat (any_goals (first | assumption | wp_step))
  refine codeAny_mono (code_set_led1 (.ref l) (E := E) (Q₁ := fun v s1 => v = .ref s.heap.objs.size ∧ s1 = { s with heap := s.heap.push (nuSet w) }) ⟨rfl, rfl⟩) fun r s1 post => ?_
  cases r with
  | error e => exact post
  | ok fl =>
    cases fl with
    | ret v =>
      obtain ⟨rfl, rfl⟩ := post
      have at0 : (s.heap.push (nuSet w)).get? s.heap.objs.size = some (nuSet w) := Heap.get?_push_size _ rfl
      have isSet : Shared.TypeIs { s with heap := s.heap.push (nuSet w) } (.ref s.heap.objs.size) "set" := ⟨_, at0, rfl⟩
      have f6 := F.called_set.init.lookup
      have f7 := F.called_set.init.bind (.ref s.heap.objs.size)
      repeat (any_goals (first | assumption | wp_step))
      refine codeAny_mono (codeAny_call_builtin (R := wants (fun r s2 => r = .none ∧ ∃ h' tk, s2 = { s with heap := h', toks := tk } ∧ TxS w h' s.heap.objs.size (uniq xs) ∧ ∀ b o, s.heap.get? b = some o → h'.get? b = some o) E) F.called_set.init.plain F.entry_set_init (check_set_init_1 isSet ?_)) fun r2 s2 post2 => ?_
      · obtain ⟨ol, hol, hcl, nl, hdl⟩ := hl
        obtain ⟨ocls, odict, odata, oslots⟩ := ol
        simp only at hcl hdl
        subst hcl; subst hdl
        have at1 : (s.heap.push (nuSet w)).get? l = some { cls := .type "tuple", dict := odict, data := .seq its nl, slots := oslots } := Heap.get?_push_of_some _ hol
        have f8 := F.sub_tuple_set
        have f9 := F.sub_tuple_frozenset
        have f10 : (Value.type "tuple" == Value.type "dict") = false := by decide
        have isL : (s.heap.push (nuSet w)).IsTuple l its := ⟨_, at1, rfl, nl, rfl⟩
        unfold Builtin.«set.__init__» noKeywords Builtin.Frozenset.updateFrom
        generalize gPI : pyIter = PI
        wp_walk
        subst gPI
        refine wpAny_pyIter_tuple isL (wpAny_bind (wpAny_runValue ?_))
        have lS : l < s.heap.objs.size := Heap.lt_size hol
        have unh3 : A.in1.in1.in1.handled = none := by simp [unh]
        have sz1 : (s.heap.push (nuSet w)).objs.size = s.heap.objs.size + 1 := Heap.size_push ..
        have ne1 : l ≠ (s.heap.push (nuSet w)).objs.size := by rw [sz1]; exact Nat.ne_of_lt (Nat.lt_succ_of_lt lS)
        have apart : s.heap.objs.size ∉ [(s.heap.push (nuSet w)).objs.size, l] := by
          rw [sz1]
          intro q
          rcases List.mem_cons.mp q with q | q
          · exact absurd q (Nat.ne_of_lt (Nat.lt_succ_self _))
          · exact absurd (List.mem_singleton.mp q).symm (Nat.ne_of_lt lS)
        have val : ∀ (i : Nat) (v : Value), its[i]? = some v → ∃ z u, xs[i]? = some z ∧ v = .str z u := fun i v hv => by
          obtain ⟨u, e⟩ := SS.strs_at are i v (by rw [Array.getElem?_toList]; exact hv)
          have hi : i < xs.length := by rw [← size]; exact (Array.getElem?_eq_some_iff.mp hv).1
          refine ⟨xs[i], u, List.getElem?_eq_getElem hi, ?_⟩
          rw [e, List.getD_eq_getElem?_getD, List.getElem?_eq_getElem hi]
          rfl
        refine txs_loop ((Walks.tuple unh3 _ l ne1 its).toS) s.heap.objs.size apart xs size small val (its.size - 0) 0 _ (by omega) (Nat.zero_le _) ⟨⟨_, Heap.get?_push_size _ rfl, rfl, rfl⟩, isL.push _⟩ (txs_nu (Heap.get?_push_of_some _ at0)) fun s' mv T => ?_
        obtain ⟨h', g', d', tk', os'⟩ := s'
        obtain rfl : g' = s.gens := mv.gens
        obtain rfl : d' = s.drawn := mv.drawn
        obtain rfl : os' = s.os := mv.os
        refine wpAny_pure (wpAny_pure ⟨rfl, h', tk', rfl, T, fun b o e => ?_⟩)
        have lt := Heap.lt_size e
        refine mv.heap b o (fun q => ?_) (Heap.get?_push_of_some _ (Heap.get?_push_of_some _ e))
        rcases List.mem_cons.mp q with q | q
        · exact absurd q (Nat.ne_of_lt lt)
        · exact absurd ((List.mem_singleton.mp q).trans sz1) (Nat.ne_of_lt (Nat.lt_succ_of_lt lt))
      · cases r2 with
        | error e => exact post2
        | ok fl2 =>
          cases fl2 with
          | ret r =>
            obtain ⟨rfl, h', tk, rfl, T, keep⟩ := post2
            repeat (any_goals (first | assumption | wp_step))
            exact fin _ _ T keep
          | _ => exact post2.elim
    | _ => exact post.elim
end
section
variable {X : Cx}
def tLenSetX (K : PySem.W.Frag) (ta : TE) : TE := fun σ H Q => ta σ H fun x H1 => ∃ (l : Addr) (ks : List Str), x = .ref l ∧ (SqL K H1 l (ks.map V.str) ∨ SqT K H1 l (ks.map V.str)) ∧ ks.length ≤ 4000 ∧ Q (.int ((uniq ks).length : Nat)) H1
theorem pe_lenSetX {e : Expr} {ta : TE} {p p2 q pos : Pos} (hc : X.calm = true) (hm : X.mg "len" = none) (hm2 : X.mg "set" = none) (ha : PE X e ta) (hg : Gl X "len" := by rfl) (hg2 : Gl X "set" := by rfl)
    (na : starEach [e] X.env = (false, eval e X.env) :: starEach [] X.env := by rfl) : PE X (.Call (.Name "len" p) [.Call (.Name "set" p2) [e] [] q] [] pos) (tLenSetX X.K ta) := by
  refine ⟨fun pins s σ H Q I h => Call_ (ld_blt I hg hm boot_len (PyProof.Rows.callWith_builtin1 (PyProof.Rows.args_cons (Call_ (ld_blt I hg2 hm2 boot_set (PyProof.Rows.callWith_type1 (PyProof.Rows.args_cons (thn (ha.run pins s σ H _ I h) fun v s1 ⟨x, H1, I1, r1, q1⟩ => PyProof.Rows.args_nil ?_) na) na rfl))) rfl) rfl rfl))⟩
  obtain ⟨l, ks, rfl, sq, len, q1⟩ := q1
  obtain rfl : v = Value.ref l := r1
  have fin : ∀ (h' : Heap) (tk : Nat), TxS X.w h' s1.heap.objs.size (uniq ks) → (∀ b o, s1.heap.get? b = some o → h'.get? b = some o) →
      wpAny (model X.prog X.w) X.A (spliced (backTo pos (starEach [] X.env))) (fun vs s₂ => wpAny (model X.prog X.w) X.A (call (.builtin "len") (Value.ref s1.heap.objs.size :: vs)) (EP X pins σ Q) X.xe s₂) X.xe { s1 with heap := h', toks := tk } := fun h' tk T keep => by
    refine PyProof.Rows.args_nil ?_
    have I2 : Inv X pins σ H1 { s1 with heap := h', toks := tk } := I1.kept fun b o e => keep b o e
    obtain ⟨o, es, ep, t, ho, ex, dat, good, perm, nd, room, fit, ris, led⟩ := T
    have size : es.size = (uniq ks).length := by
      have := perm.length_eq
      rw [List.length_map, Array.length_toList] at this
      exact this
    have hu := (uniq_ok ks).2.1
    refine PySem.call_len_set ho ex dat fit (by rw [size]; omega) ⟨.int ((uniq ks).length : Nat), H1, I2.tok _, ⟨_, by rw [size]⟩, q1⟩
  rcases sq with sq | sq
  · obtain ⟨its, rv, pl, _⟩ := I1.list sq
    exact txs_call ks (I1.ok.hd hc) pl.isList (by simpa using strsAre_of rv) (by unfold scanBound; omega) fin
  · obtain ⟨its, rv, pl, _⟩ := I1.tuple sq
    exact txs_callT ks (I1.ok.hd hc) pl (by simpa using strsAre_of rv) (by unfold scanBound; omega) fin
end
def opLenSet (x : D) (P : D → Prop) : Prop := ∃ ss : List Str, (x = .lst (ss.map D.str) ∨ x = .tup (ss.map D.str)) ∧ ss.length ≤ 4000 ∧ P (.int ((uniq ss).length : Nat))
section
variable {G : Glob} {X : Cx} {O : XO} {e : Expr} {ka : Kd} {ca : Bool} {na : Nat} {fa : FE} {p p2 q pos : Pos}
theorem e_lenSet (hc : X.calm = true) (ha : PDe G X O e ka ca na fa) (hm : X.mg "len" = none) (hm2 : X.mg "set" = none) (hg : Gl X "len" := by rfl) (hg2 : Gl X "set" := by rfl)
    (he : starEach [e] X.env = (false, eval e X.env) :: starEach [] X.env := by rfl) : PDe G X O (.Call (.Name "len" p) [.Call (.Name "set" p2) [e] [] q] [] pos) .st ca na (fUn opLenSet fa) := by
  obtain ⟨ta, pa, qa⟩ := ha.run
  refine ⟨_, pe_lenSetX hc hm hm2 pa hg hg2 he, fun B S H σ ρ Kc Q I hb hf hq => ?_⟩
  refine qa B S H σ ρ _ _ I hb hf fun v H1 S1 ρ1 d I1 m1 c1 r1 h1 => ?_
  obtain ⟨ss, hd, len, h1⟩ := h1
  rcases hd with rfl | rfl
  · obtain ⟨a, vs, rfl, at', la⟩ := r1.lst I1
    obtain rfl := den_strs_inv la
    exact ⟨a, ss, rfl, .inl (SqL.of at'), len, hq _ _ _ _ _ I1 m1 c1 (Den.int _) h1⟩
  · obtain ⟨a, vs, rfl, at', la⟩ := r1.tup I1
    obtain rfl := den_strs_inv la
    exact ⟨a, ss, rfl, .inr (SqT.of at'), len, hq _ _ _ _ _ I1 m1 c1 (Den.int _) h1⟩
end
/-- C(e, .., k = v, ..): there are defaults, those behind the first j fill up -/
theorem mkMkIKD {G : Glob} {P : Program} {w : World} {K : PySem.W.Frag} {mg : Str → Option Value} {base : Heap} {cs : List (Str × List Str)} {fs : List Str} {x : Str} {ns : List Str} {k c n : Nat} {m : Spc} {n0 : Str} {ps ks : List Str} {fd : FuncData} {qual : Str} {params : Arguments} {body : List Stmt} {scope : Scope} {dvs : List V} (ix : List Nat) (j : Nat) (dds : List D) (T : ClTb G K mg cs fs) (hc : cs[c]? = some (x, ns)) (hgl : mg x = some (.ref (He.ga K x))) (M : (He.Fa.mkr x).ok K = true) (Df : FunD K "__init__" qual params body scope dvs [] (He.ma K (He.ga K x) "__init__") fd)
    (F : FnG P w K mg base k (He.ma K (He.ga K x) "__init__") fd (n0 :: ps) (spI G K ps.length m c)) (hd : dvs ≠ []) (hden : ∀ S : Fz, DenL G K S (dvs.drop j) dds) (hix : ∀ i ∈ ix, i < n + ks.length) (hl : ix.length + (dvs.length - j) = ps.length)
    (hb : ∀ (T : Addr) (kV doc pm : Value) (an : Option Addr) (cdv ct v : Value) (us its ws : List Value), us.length = n → its.length = dvs.length → ws.length = ks.length →
      ∃ q, bindArgs (PySem.W.fnOf "__init__" qual params body scope (.ref T) kV doc pm an cdv ct) ⟨v :: us, ks.zip ws⟩ = seqItems? (.ref T) >>= q ∧ q (some its.toArray) = pure ((n0 :: ps).zip (v :: (permIx ix us ws ++ its.drop j)))) : MkIK G P w K mg base x k m c n ks (fun us ws => permIx ix us ws ++ dds) := by
  obtain ⟨C, hm, hct, _⟩ := T.ct c x ns hc
  rw [hgl] at hm; cases hm
  obtain ⟨oc, od, dV, kV, doc, pm, an, cdv, ct, osl, e, lk, hcd, hD, hK⟩ := Df.ex
  rcases hD with ⟨e, _⟩ | ⟨_, T, o, its, q, rfl, lT, oT, rT⟩
  · exact absurd e hd
  · refine ⟨_, _, fd, n0, ps, ns, fun us ws => selfIx ix us ws ++ its.drop j, fun us ws => selfIx ix us ws ++ dvs.drop j, fun us ws => permIx ix us ws ++ dvs.drop j, He.mkr_ok M, F, hgl, hct, ⟨fun s us ws X h1 h2 => ?_, fun {us vs ws zs} r1 r2 => ?_⟩, fun v vs zs => rfl, fun S vs zs ds es h1 h2 l1 l2 => ⟨paired_append (permIx_rel h1 h2 ix) (hden S), ?_⟩⟩
    · subst e
      cases us with
      | nil => simp at h1
      | cons v us =>
        obtain ⟨q, e1, e2⟩ := hb T kV doc pm an cdv ct v us its ws (by simpa using h1) rT.length.symm h2
        refine BindsTo.of_looks fun M => ?_
        rw [e1]
        exact looks_items X lT oT (.of_pure e2)
    · refine Vals.append ?_ (rT.drop j)
      cases r1 with
      | nil => exact .nil
      | cons a r1 => exact .cons a (permIx_rel r1 r2 ix)
    · rw [List.length_append, permIx_len fun i hi => by rw [l1, l2]; exact hix i hi, List.length_drop]
      exact hl
end WL

/-! AA: str(n) of an int. -/
namespace WL
open PySem PySem.Spec PyProof.Rows L2
def opStrI (x : D) (P : D → Prop) : Prop := match x with
  | .int i => i.natAbs.log2 < 1920 ∧ P (.str (toString i))
  | _ => False
section
variable {G : Glob} {X : Cx} {O : XO} {e : Expr} {ka : Kd} {ca : Bool} {na : Nat} {fa : FE} {p pos : Pos}
end
end WL

/-! MP: the chain put together of rows that fall. -/
namespace FL
variable {α : Type} [DecidableEq α]
end FL

namespace K03
open PySem PySem.Spec PyProof.Rows L2 WL
open LamX (LamS)
abbrev FnP (K : PySem.W.Frag) (x : Str) (i : Nat) (f : Addr) (fd : FuncData) : Prop := FunD K x x (defArgs (top i)) (defBody (top i)) (defScope (top i)) [] [] f fd
abbrev FnQ (K : PySem.W.Frag) (x q : Str) (s : Stmt) (f : Addr) (fd : FuncData) : Prop := FunD K x q (defArgs s) (defBody s) (defScope s) [] [] f fd
def at_own_effort : Nat → Option Nat := fun c => if c = 0 then some 0 else none
def at_own_worth : Nat → Option Nat := fun c => if c = 0 then some 1 else none
def at_own_needs : Nat → Option Nat := fun c => if c = 0 then some 2 else none
def mkq (x : Str) (sc : Scope) : Str := (envOfC x sc 0 0 .none).qual ++ "<lambda>"
abbrev mks : List Mk1 := [(("_law_refused", none), mkq "_law_refused" (defScope (top 29)))]
abbrev TTK (K : PySem.W.Frag) : List (Addr × Str) := tabsOf K mks
/-- the names of the module that are the built-in ones; its constants -/
structure BY (mg : Str → Option Value) : Prop where
  b_all : mg "all" = none
  b_bool : mg "bool" = none
  b_enumerate : mg "enumerate" = none
  b_int : mg "int" = none
  b_isinstance : mg "isinstance" = none
  b_len : mg "len" = none
  b_list : mg "list" = none
  b_min : mg "min" = none
  b_range : mg "range" = none
  b_repr : mg "repr" = none
  b_set : mg "set" = none
  b_sorted : mg "sorted" = none
  b_str : mg "str" = none
  b_tuple : mg "tuple" = none
  c_LETTERS : ∃ u, mg "LETTERS" = some u ∧ RelV (.str "abcdefghijklmnopqrstuvwxyz") u
  c_LONGEST_NAME : ∃ u, mg "LONGEST_NAME" = some u ∧ RelV (.int 8) u
  c_MOST_EFFORT : ∃ u, mg "MOST_EFFORT" = some u ∧ RelV (.int 100) u
  c_MOST_TASKS : ∃ u, mg "MOST_TASKS" = some u ∧ RelV (.int 30) u
  c_MOST_WORTH : ∃ u, mg "MOST_WORTH" = some u ∧ RelV (.int 100) u
section
variable {P : Program} {w : World} {K : PySem.W.Frag} {mg : Str → Option Value} {base : Heap} {f : Addr} {fd : FuncData}
theorem sc_BadTask : FnScope ["self", "part"] ["self", "part"] (defScope (inClass (top 2) 0)) := ⟨rfl, rfl, rfl, by decide +kernel, rfl, by decide +kernel, by decide +kernel⟩
theorem ok_BadTask (F : FunD K "__init__" "BadTask.__init__" (defArgs (inClass (top 2) 0)) (defBody (inClass (top 2) 0)) (defScope (inClass (top 2) 0)) [] [] f fd) : FnG P w K mg base 1 f fd ["self", "part"] (spErr K "part") :=
  fn_err F sc_BadTask fun cdv A outer s H E => ⟨_, _, pss_one (ps_ost (pe_var (i := 0) rfl (Or.inl rfl)) (pe_var (i := 1) rfl (Or.inl rfl))), rfl, rfl⟩
theorem sc_BadBacklog : FnScope ["self", "name"] ["self", "name"] (defScope (inClass (top 3) 0)) := ⟨rfl, rfl, rfl, by decide +kernel, rfl, by decide +kernel, by decide +kernel⟩
theorem ok_BadBacklog (F : FunD K "__init__" "BadBacklog.__init__" (defArgs (inClass (top 3) 0)) (defBody (inClass (top 3) 0)) (defScope (inClass (top 3) 0)) [] [] f fd) : FnG P w K mg base 1 f fd ["self", "name"] (spErr K "name") :=
  fn_err F sc_BadBacklog fun cdv A outer s H E => ⟨_, _, pss_one (ps_ost (pe_var (i := 0) rfl (Or.inl rfl)) (pe_var (i := 1) rfl (Or.inl rfl))), rfl, rfl⟩
theorem sc_NoTask : FnScope ["self", "name"] ["self", "name"] (defScope (inClass (top 4) 0)) := ⟨rfl, rfl, rfl, by decide +kernel, rfl, by decide +kernel, by decide +kernel⟩
theorem ok_NoTask (F : FunD K "__init__" "NoTask.__init__" (defArgs (inClass (top 4) 0)) (defBody (inClass (top 4) 0)) (defScope (inClass (top 4) 0)) [] [] f fd) : FnG P w K mg base 1 f fd ["self", "name"] (spErr K "name") :=
  fn_err F sc_NoTask fun cdv A outer s H E => ⟨_, _, pss_one (ps_ost (pe_var (i := 0) rfl (Or.inl rfl)) (pe_var (i := 1) rfl (Or.inl rfl))), rfl, rfl⟩
end
/-- the letters -/
abbrev abc : Str := "abcdefghijklmnopqrstuvwxyz"
def isNameD : D → Bool
  | .str z => decide (1 ≤ z.length) && (decide (z.length ≤ 8) && z.cps.toList.all fun c => subS ⟨#[c]⟩ abc)
  | _ => false
def isNum : D → Bool
  | .int _ => true
  | _ => false
/-- of a type that is told -/
def okV (v : D) : Prop := (tyN v).isSome = true ∧ (∀ z, v = .str z → z.length ≤ 1000) ∧ ∀ xs, v = .tup xs → ∀ x ∈ xs, (tyN x).isSome = true
theorem strD_len (z : Str) : (strD z).length = z.length := by simp [strD, Str.length]
theorem boolsL_all {f : D → Bool} (xs : List D) : boolsL (xs.map fun x => D.bl (f x)) = some (xs.map f) := by
  induction xs with
  | nil => rfl
  | cons x xs ih => simp [boolsL, ih]
theorem sz (n : Nat) (h : n ≤ 1000) : n ≤ 16777216 := by omega
theorem seq_gen {g1 g2 : FS} {Ed : EndsD} {ρ : EnvD} (h : ∀ nx : EnvD → Prop, (∀ ρ', g2 Ed ρ' → nx ρ') → g1 { Ed with nx := nx } ρ) : fSeq g1 g2 Ed ρ := h (g2 Ed) fun _ z => z
theorem noOwn_nil {ρ : EnvD} {i : Nat} (h : ∀ o, ρ[i]? ≠ some (some (.own o))) : noOwn ρ [i] := fun j hj => by
  rw [List.mem_singleton.mp hj]; exact h
theorem log2_lt {n k : Nat} (h : n < 2 ^ k) (hk : 0 < k) : n.log2 < k := by
  by_cases e : n = 0
  · rw [e]; exact hk
  · exact (Nat.log2_lt e).mpr h
theorem log2_small {n : Nat} (h : n ≤ 16777216) : n.log2 < 9000 := Nat.lt_of_lt_of_le (log2_lt (k := 30) (by omega) (by decide)) (by decide)
theorem pyEq_ii (a b : Int) : pyEq (.int a) (.int b) = decide (a = b) := by
  simp [pyEq, toPy, PyData.eqv]
  exact Bool.eq_iff_iff.mpr (by simp)
theorem atI_0 (x : D) (xs : List D) : atI (x :: xs) 0 = some x := by simp [atI, ixN]
theorem atI_1 (x y : D) (xs : List D) : atI (x :: y :: xs) 1 = some y := by
  have : (1 : Int) < ((xs.length : Nat) : Int) + 1 + 1 := by omega
  simp [atI, ixN, this]
theorem atI_lt {α : Type} {xs : List α} {i : Int} (h : 0 ≤ i) (h2 : i < (xs.length : Nat)) : ∃ d, atI xs i = some d ∧ d ∈ xs := by
  have hn : i.toNat < xs.length := by omega
  refine ⟨xs[i.toNat], ?_, List.getElem_mem hn⟩
  simp [atI, ixN, h, h2, hn]
theorem ints_of {ys : List D} (h : ∀ y ∈ ys, ∃ i : Int, y = D.int i) : ∃ ws : List Int, ys = ws.map D.int := by
  induction ys with
  | nil => exact ⟨[], rfl⟩
  | cons y ys ih =>
    obtain ⟨i, rfl⟩ := h y (List.mem_cons_self ..)
    obtain ⟨ws, rfl⟩ := ih fun z hz => h z (List.mem_cons_of_mem _ hz)
    exact ⟨i :: ws, rfl⟩
theorem limT_32 : limT * 4294967296 < 2 ^ 9033 := by
  have e : limT * 4294967296 = 2 ^ (9000 + 32) := (Nat.pow_add 2 9000 32).symm
  rw [e]
  exact Nat.pow_lt_pow_right (by decide) (by decide)
theorem pyEq_ss (s : Str) : pyEq (.str s) (.str s) = true := by simp [pyEq, toPy, PyData.eqv]
def nameOk (s : Str) : Bool := isNameD (.str s)
/-- a task of a model; what it is as an instance -/
structure Tk where
  e : Int
  w : Int
  ns : List Str
def tI (t : Tk) : D := .ins 0 [.int t.e, .int t.w, .tup (t.ns.map D.str)]
structure TaskOk (e w : Int) (ns : List Str) : Prop where
  e1 : 1 ≤ e
  e2 : e ≤ 100
  w1 : 0 ≤ w
  w2 : w ≤ 100
  nm : ∀ n ∈ ns, nameOk n = true
  nd : ns.Nodup
  ln : ns.length < 30
theorem okV_name {n : Str} (h : nameOk n = true) : okV (.str n) := by
  refine ⟨rfl, fun z e => ?_, fun xs e => by cases e⟩
  cases e
  simp only [nameOk, isNameD, Bool.and_eq_true, decide_eq_true_eq] at h
  omega
theorem noOwn_2 {ρ : EnvD} {i j : Nat} (h : ∀ o, ρ[i]? ≠ some (some (.own o))) (h2 : ∀ o, ρ[j]? ≠ some (some (.own o))) : noOwn ρ [i, j] := fun k hk => by
  rcases List.mem_cons.mp hk with e | hk
  · rw [e]; exact h
  · rw [List.mem_singleton.mp hk]; exact h2

theorem pyEq_l0 (xs : List D) : pyEq (.lst xs) (.lst []) = xs.isEmpty := by
  cases xs <;> simp [pyEq, toPy, toPys, PyData.eqv, PyData.eqvAll]
theorem abc_in : ∀ c ∈ abc.cps.toList, subS ⟨#[c]⟩ abc = true := by decide +kernel
/-- a name, as the law draws it -/
structure LN (n : Str) : Prop where
  ch : ∀ c ∈ n.cps.toList, c ∈ abc.cps.toList
  lo : 1 ≤ n.length
  hi : n.length ≤ 8
theorem LN.ok {n : Str} (h : LN n) : nameOk n = true := by
  show (decide (1 ≤ n.length) && (decide (n.length ≤ 8) && n.cps.toList.all fun c => subS ⟨#[c]⟩ abc)) = true
  rw [decide_eq_true h.lo, decide_eq_true h.hi]
  exact List.all_eq_true.mpr fun c hc => abc_in c (h.ch c hc)
theorem LN.sok {n : Str} (h : LN n) : PyData.strOk n = true := by
  have a : ∀ c ∈ abc.cps.toList, c < 0x110000 := by decide +kernel
  show n.cps.all (· < 0x110000) = true
  rw [← Array.all_toList]
  exact List.all_eq_true.mpr fun c hc => decide_eq_true (a c (h.ch c hc))
theorem plains_str {ns : List Str} (h : ∀ n ∈ ns, LN n) : WL.plains (ns.map D.str) = true := by
  induction ns with
  | nil => rfl
  | cons n ns ih =>
    simp only [List.map_cons, WL.plains, WL.plain, ih fun m hm => h m (.tail _ hm), (h n (.head _)).sok]
    rfl
theorem deeps_str (ns : List Str) : WL.deeps (ns.map D.str) ≤ 1 := by
  induction ns with
  | nil => simp [WL.deeps]
  | cons n ns ih => simp only [List.map_cons, WL.deeps, WL.deep]; omega
theorem plain_l0 {ns : List Str} (h : ∀ n ∈ ns, LN n) : WL.plain (.lst (ns.map D.str)) = true := by simp only [WL.plain]; exact plains_str h
theorem erase_perm {α : Type} : ∀ (l : List α) (i : Nat) (x : α), l[i]? = some x → (x :: l.eraseIdx i).Perm l
  | [], i, x, h => by simp at h
  | y :: l, 0, x, h => by simp at h; subst h; exact List.Perm.refl _
  | y :: l, i + 1, x, h => by
    simp only [List.eraseIdx_cons_succ]
    exact (List.Perm.swap y x _).trans ((erase_perm l i x (by simpa using h)).cons y)
def nearA (w : Str) : List Str := abc.cps.toList.map fun c => cutS w none (some 7) ++ ⟨#[c]⟩
def nearB (w : Str) : List Str := abc.cps.toList.map fun c => cutS w none (some 6) ++ ⟨#[c]⟩ ++ "q"
theorem cutS_l (z : Str) (lo hi : Option Int) : (cutS z lo hi).cps.toList = cutL z.cps.toList lo hi := by
  show ((z.cps.toList.drop _).take _).toArray.toList = _
  simp [cutL, Str.length]
theorem q_l : ("q" : Str).cps.toList = [113] := by decide +kernel
theorem abc_nd : abc.cps.toList.Nodup := by decide +kernel
theorem near_ex (w : Str) (fs : List Str) (hf : fs.length ≤ 40) : ∃ z ∈ nearA w ++ nearB w, z ∉ fs := by
  apply Classical.byContradiction
  intro h
  have h : ∀ z ∈ nearA w ++ nearB w, z ∈ fs := fun z hz => Classical.byContradiction fun q => h ⟨z, hz, q⟩
  have hA : ∀ c, (cutS w none (some 7) ++ (⟨#[c]⟩ : Str)).cps.toList = w.cps.toList.take 7 ++ [c] := fun c => by
    rw [app_l, cutS_l]
    show cutL _ none (some ((7 : Nat) : Int)) ++ _ = _
    rw [cutL_take]
  have hB : ∀ c, (cutS w none (some 6) ++ (⟨#[c]⟩ : Str) ++ "q").cps.toList = w.cps.toList.take 6 ++ [c, 113] := fun c => by
    rw [app_l, app_l, cutS_l, q_l]
    show cutL _ none (some ((6 : Nat) : Int)) ++ _ ++ _ = _
    rw [cutL_take, List.append_assoc]; rfl
  let C : List (List Nat) := (abc.cps.toList.filter (· ≠ 113)).map (fun c => w.cps.toList.take 7 ++ [c]) ++ abc.cps.toList.map (fun c => w.cps.toList.take 6 ++ [c, 113])
  have hC : C.Nodup := by
    refine List.nodup_append.mpr ⟨?_, ?_, ?_⟩
    · refine List.Pairwise.map _ (fun a b hab e => hab ?_) (abc_nd.filter _)
      simpa using e
    · refine List.Pairwise.map _ (fun a b hab e => hab ?_) abc_nd
      simpa using e
    · intro a ha b hb e
      obtain ⟨c, hc, rfl⟩ := List.mem_map.mp ha
      obtain ⟨d, hd, rfl⟩ := List.mem_map.mp hb
      have h1 := congrArg List.getLast? e
      simp at h1
      have := (List.mem_filter.mp hc).2
      simp [h1] at this
  have hl : C.length = 51 := by simp only [C, List.length_append, List.length_map]; decide +kernel
  have hs : ∀ x ∈ C, x ∈ fs.map fun z => z.cps.toList := by
    intro x hx
    rcases List.mem_append.mp hx with hx | hx
    · obtain ⟨c, hc, rfl⟩ := List.mem_map.mp hx
      exact List.mem_map.mpr ⟨_, h _ (List.mem_append.mpr (.inl (List.mem_map.mpr ⟨c, (List.mem_filter.mp hc).1, rfl⟩))), hA c⟩
    · obtain ⟨c, hc, rfl⟩ := List.mem_map.mp hx
      exact List.mem_map.mpr ⟨_, h _ (List.mem_append.mpr (.inr (List.mem_map.mpr ⟨c, hc, rfl⟩))), hB c⟩
  have := nodup_sub_len C _ hC hs
  rw [List.length_map, hl] at this
  omega
def lnB (n : Str) : Bool := n.cps.toList.all (fun c => abc.cps.toList.contains c) && (decide (1 ≤ n.length) && decide (n.length ≤ 8))
theorem LN.of {n : Str} (h : lnB n = true) : LN n := by
  simp only [lnB, Bool.and_eq_true, decide_eq_true_eq] at h
  exact ⟨fun c hc => by simpa using List.all_eq_true.mp h.1 c hc, h.2.1, h.2.2⟩
theorem ln_l {z : Str} {n : Nat} (e : z.cps.toList.length = n) : z.length = n := by
  rw [← e]; show z.cps.size = _; simp
theorem near_ln {w : Str} (hw : LN w) : ∀ z ∈ nearA w ++ nearB w, LN z := by
  intro z hz
  have hlw := len_l w
  have q : 113 ∈ abc.cps.toList := by decide +kernel
  rcases List.mem_append.mp hz with h | h
  · obtain ⟨c, hc, rfl⟩ := List.mem_map.mp h
    have e : (cutS w none (some 7) ++ (⟨#[c]⟩ : Str)).cps.toList = w.cps.toList.take 7 ++ [c] := by
      rw [app_l, cutS_l]
      show cutL _ none (some ((7 : Nat) : Int)) ++ _ = _
      rw [cutL_take]
    have l : (cutS w none (some 7) ++ (⟨#[c]⟩ : Str)).length = min 7 w.length + 1 := ln_l (by rw [e, List.length_append, List.length_take, hlw]; rfl)
    refine ⟨fun d hd => ?_, by omega, by omega⟩
    rw [e] at hd
    rcases List.mem_append.mp hd with h | h
    · exact hw.ch d (List.mem_of_mem_take h)
    · rw [List.mem_singleton.mp h]; exact hc
  · obtain ⟨c, hc, rfl⟩ := List.mem_map.mp h
    have e : (cutS w none (some 6) ++ (⟨#[c]⟩ : Str) ++ "q").cps.toList = w.cps.toList.take 6 ++ [c, 113] := by
      rw [app_l, app_l, cutS_l, q_l]
      show cutL _ none (some ((6 : Nat) : Int)) ++ _ ++ _ = _
      rw [cutL_take, List.append_assoc]; rfl
    have l : (cutS w none (some 6) ++ (⟨#[c]⟩ : Str) ++ "q").length = min 6 w.length + 2 := ln_l (by rw [e, List.length_append, List.length_take, hlw]; rfl)
    refine ⟨fun d hd => ?_, by omega, by omega⟩
    rw [e] at hd
    rcases List.mem_append.mp hd with h | h
    · exact hw.ch d (List.mem_of_mem_take h)
    · simp only [List.mem_cons, List.not_mem_nil, or_false] at h
      rcases h with h | h <;> subst h
      · exact hc
      · exact q
/-- a letter of a name exchanged -/
theorem swap_ln {w : Str} (hw : LN w) {i : Nat} (hi : i < w.length) {c : Nat} (hc : c ∈ abc.cps.toList) : LN (cutS w none (some (i : Int)) ++ (⟨#[c]⟩ : Str) ++ cutS w (some ((i : Int) + 1)) none) := by
  have hlw := len_l w
  have e : (cutS w none (some (i : Int)) ++ (⟨#[c]⟩ : Str) ++ cutS w (some ((i : Int) + 1)) none).cps.toList = w.cps.toList.take i ++ [c] ++ w.cps.toList.drop (i + 1) := by
    rw [app_l, app_l, cutS_l, cutS_l, cutL_take]
    show _ ++ _ ++ cutL _ (some (((i + 1 : Nat)) : Int)) none = _
    rw [cutL_drop]
  have l : (cutS w none (some (i : Int)) ++ (⟨#[c]⟩ : Str) ++ cutS w (some ((i : Int) + 1)) none).length = w.length := ln_l (by rw [e, List.length_append, List.length_append, List.length_take, List.length_drop, hlw, List.length_singleton]; omega)
  refine ⟨fun d hd => ?_, by rw [l]; exact hw.lo, by rw [l]; exact hw.hi⟩
  rw [e] at hd
  rcases List.mem_append.mp hd with h | h
  · rcases List.mem_append.mp h with h | h
    · exact hw.ch d (List.mem_of_mem_take h)
    · rw [List.mem_singleton.mp h]; exact hc
  · exact hw.ch d (List.mem_of_mem_drop h)

/-- a list or tuple of texts -/
def SqS (v : D) (ns : List Str) : Prop := v = .tup (ns.map D.str) ∨ v = .lst (ns.map D.str)
theorem SqS.inj {v : D} {ns ms : List Str} (a : SqS v ns) (b : SqS v ms) : ns = ms := by
  rcases a with rfl | rfl <;> rcases b with b | b
  · exact map_str_inj (D.tup.inj b)
  · cases b
  · cases b
  · exact map_str_inj (D.lst.inj b)
theorem SqS.it {w : D} {ns : List Str} (h : SqS w ns) {P : List D → Prop} (hp : P (ns.map D.str)) : itAll w P := by
  rcases h with rfl | rfl <;> exact hp

theorem plains_sub {xs ys : List D} (h : WL.plains xs = true) (hd : WL.deeps xs ≤ 60) (hs : ∀ y ∈ ys, y ∈ xs) : WL.plains ys = true ∧ WL.deeps ys ≤ 63 := by
  have at' : ∀ {xs : List D}, WL.plains xs = true → ∀ x ∈ xs, WL.plain x = true ∧ WL.deep x ≤ WL.deeps xs := fun {xs} => by
    induction xs with
    | nil => exact fun _ x hx => nomatch hx
    | cons z xs ih =>
      intro h x hx
      simp only [WL.plains, Bool.and_eq_true] at h
      simp only [WL.deeps]
      rcases List.mem_cons.mp hx with e | hx
      · rw [e]; exact ⟨h.1, by omega⟩
      · have := ih h.2 x hx
        exact ⟨this.1, by omega⟩
  induction ys with
  | nil => exact ⟨rfl, by simp [WL.deeps]⟩
  | cons y ys ih =>
    obtain ⟨h1, h2⟩ := ih fun z hz => hs z (.tail _ hz)
    obtain ⟨h3, h4⟩ := at' h y (hs y (.head _))
    simp only [WL.plains, WL.deeps, Bool.and_eq_true]
    exact ⟨⟨h3, h1⟩, by omega⟩

theorem joinL_one : ∀ cs : List Nat, TL.joinL [] (cs.map fun c => [c]) = cs
  | [] => rfl
  | [c] => rfl
  | c :: d :: r => by
    have := joinL_one (d :: r)
    simp only [List.map_cons] at this ⊢
    simp only [TL.joinL, List.nil_append, List.singleton_append]
    rw [this]
theorem join_chars (cs : List Nat) : (Txt.join "" (cs.map fun c => (⟨#[c]⟩ : Str))).cps.toList = cs := by
  have h := TL.tl_join "" (cs.map fun c => (⟨#[c]⟩ : Str))
  have e : ("" : Str).cps.toList = [] := by decide
  have h2 : TL.tl (Str.join "" (cs.map fun c => (⟨#[c]⟩ : Str))) = TL.joinL [] (cs.map fun c => [c]) := by
    rw [h, List.map_map]
    show TL.joinL ("" : Str).cps.toList _ = _
    rw [e]; rfl
  rw [joinL_one] at h2
  rw [TL.join_eq]
  exact h2
theorem strsL_chars (cs : List Nat) : strsL (cs.map fun c => D.str ⟨#[c]⟩) = some (cs.map fun c => (⟨#[c]⟩ : Str)) := by
  induction cs with
  | nil => rfl
  | cons c cs ih => simp [strsL, ih]
theorem sum_ones (cs : List Nat) : ((cs.map fun c => (⟨#[c]⟩ : Str)).map (·.length)).sum = cs.length := by
  induction cs with
  | nil => rfl
  | cons c cs ih =>
    simp only [List.map_cons, List.sum_cons, ih, List.length_cons]
    show 1 + cs.length = _
    omega
theorem outs_chars {S : Nat → Prop} {xs ys : List D} (h : Outs (fun _ o => ∃ c, S c ∧ o = some (.str ⟨#[c]⟩)) xs ys) : ∃ cs : List Nat, ys = (cs.map fun c => D.str ⟨#[c]⟩) ∧ (∀ c ∈ cs, S c) ∧ cs.length = xs.length := by
  induction h with
  | nil => exact ⟨[], rfl, (fun _ z => nomatch z), rfl⟩
  | put r _ ih =>
    obtain ⟨c, hc, e⟩ := r
    cases e
    obtain ⟨cs, rfl, h1, h2⟩ := ih
    refine ⟨c :: cs, rfl, fun d hd => ?_, congrArg Nat.succ h2⟩
    rcases List.mem_cons.mp hd with e | hd
    · rw [e]; exact hc
    · exact h1 d hd
  | drop r _ _ => obtain ⟨c, _, e⟩ := r; cases e
abbrev someN : List Str := ["a", "b", "task", "worth", "needs", "done", "add", "zzzzzzzz"]
theorem some_ln : ∀ z ∈ someN, LN z := fun z hz => LN.of (List.all_eq_true.mp (show someN.all lnB = true by decide +kernel) z hz)
theorem atI_last {α : Type} {xs : List α} (h : xs ≠ []) : ∃ z ∈ xs, atI xs (-1) = some z := by
  have hl : 0 < xs.length := List.length_pos_iff.mpr h
  refine ⟨xs[xs.length - 1], List.getElem_mem _, ?_⟩
  have e : ixN xs.length (-1) = some (xs.length - 1) := by
    unfold ixN
    simp
    omega
  simp [atI, e]
theorem atI_map {α β : Type} (f : α → β) (xs : List α) (i : Int) : atI (xs.map f) i = (atI xs i).map f := by
  unfold atI
  rw [List.length_map]
  cases ixN xs.length i with
  | none => rfl
  | some n => simp
def f7 (w : Str) : D → D := fun x => match x with
  | .str y => .str (cutS w none (some 7) ++ y)
  | _ => .non
def f6 (w : Str) : D → D := fun x => match x with
  | .str y => .str (cutS w none (some 6) ++ y ++ "q")
  | _ => .non
theorem near7 (w : Str) : (strD abc).map (f7 w) = (nearA w).map D.str := by simp only [strD, nearA, List.map_map]; rfl
theorem near6 (w : Str) : (strD abc).map (f6 w) = (nearB w).map D.str := by simp only [strD, nearB, List.map_map]; rfl
theorem cutS_len (z : Str) (l u : Option Int) : (cutS z l u).length ≤ z.length := by
  rw [← len_l, ← len_l z, cutS_l]
  unfold cutL
  rw [List.length_take, List.length_drop]
  omega
def fresh (fs : List Str) : D → Option D := fun x => match x with
  | .str z => if z ∈ fs then none else some (.str z)
  | _ => none
def drawnW (n i : Nat) (ρ : EnvD) : Prop := ∃ (fs : List Str) (s5 s6 s7 s8 s10 s11 : Option WL.Slot), fs.length = i ∧ fs.Nodup ∧ (∀ z ∈ fs, LN z) ∧ ρ = [some (.imm (.tok 0)), some (.imm (.int n)), some (.imm (.str abc)), some (.own (.lst (fs.map D.str))), some (.imm (.lst (someN.map D.str))), s5, s6, s7, s8, none, s10, s11, none, none]

abbrev Mdl : Type := List (Str × Tk)
structure MOk (M : Mdl) : Prop where
  nd : (ks M).Nodup
  ln : ∀ n ∈ ks M, LN n
  ok : ∀ p ∈ M, TaskOk p.2.e p.2.w p.2.ns
  st : ∀ p ∈ M, srt p.2.ns = p.2.ns
  cl : ∀ p ∈ M, ∀ z ∈ p.2.ns, z ∈ ks M
  ac : ∃ r : Str → Nat, ∀ p ∈ M, ∀ z ∈ p.2.ns, r z < r p.1
  len : M.length ≤ 30
instance : Inhabited Tk := ⟨⟨0, 0, []⟩⟩
theorem rngD_get {n i : Nat} {x : D} (h : (rngD 0 n)[i]? = some x) : x = .int i ∧ i < n := by
  have hi := (List.getElem?_eq_some_iff.mp h).1
  simp [rngD] at hi
  simp [rngD, hi] at h
  exact ⟨h.symm, hi⟩
theorem rngD_len (a : Int) (n : Nat) : (rngD a n).length = n := by simp [rngD]
/-- names led to names -/
abbrev NN : Type := List (Str × List Str)
/-- what a name needs -/
def needs (N : NN) (n : Str) : List Str := (getS N n).getD []
/-- what rests on what -/
inductive Reach (N : NN) : Str → Str → Prop
  | base {n z : Str} : z ∈ needs N n → Reach N n z
  | step {n y z : Str} : y ∈ needs N n → Reach N y z → Reach N n z
structure NOk (N : NN) : Prop where
  nd : (ks N).Nodup
  cl : ∀ p ∈ N, ∀ z ∈ p.2, z ∈ ks N
  nn : ∀ p ∈ N, p.2.length ≤ 31
  len : N.length ≤ 31
/-- as rests_of tells them -/
structure ROk' (N R : NN) : Prop where
  nd : (ks R).Nodup
  sub : ∀ n ∈ ks R, n ∈ ks N
  val : ∀ p ∈ R, p.2.Nodup ∧ srt p.2 = p.2 ∧ ∀ z, z ∈ p.2 ↔ Reach N p.1 z
  cl : ∀ n ∈ ks R, ∀ z ∈ needs N n, z ∈ ks R
theorem ROk'.len {N R : NN} (h : ROk' N R) : R.length ≤ N.length := by
  rw [← ks_len, ← ks_len N]; exact nodup_sub_len _ _ h.nd h.sub
/-- M in the order of its names -/
def srtM (M : Mdl) : Mdl := (srt (ks M)).map fun z => (z, (getS M z).getD default)
theorem ks_srtM (M : Mdl) : ks (srtM M) = srt (ks M) := ks_names _ _
theorem mem_srtM {M : Mdl} (h : (ks M).Nodup) {p : Str × Tk} : p ∈ srtM M ↔ p ∈ M := by
  constructor
  · intro hp
    obtain ⟨z, hz, rfl⟩ := List.mem_map.mp hp
    obtain ⟨t, et, hm⟩ := getS_ex (mem_srt.mp hz)
    rw [et]; exact hm
  · intro hp
    refine List.mem_map.mpr ⟨p.1, mem_srt.mpr (List.mem_map.mpr ⟨p, hp, rfl⟩), ?_⟩
    rw [getS_of h (show (p.1, p.2) ∈ M from hp)]; rfl
theorem mem_ks_srtM {M : Mdl} {z : Str} : z ∈ ks (srtM M) ↔ z ∈ ks M := by rw [ks_srtM, mem_srt]
theorem MOk.sorted {M : Mdl} (h : MOk M) : MOk (srtM M) := by
  obtain ⟨r, hr⟩ := h.ac
  refine ⟨by rw [ks_srtM]; exact srt_nodup h.nd, fun n hn => h.ln n (mem_ks_srtM.mp hn), fun p hp => h.ok p ((mem_srtM h.nd).mp hp), fun p hp => h.st p ((mem_srtM h.nd).mp hp), fun p hp z hz => mem_ks_srtM.mpr (h.cl p ((mem_srtM h.nd).mp hp) z hz), ⟨r, fun p hp => hr p ((mem_srtM h.nd).mp hp)⟩, ?_⟩
  rw [← ks_len, ks_srtM, srt_len, ks_len]; exact h.len
/-- what the tasks need -/
def needN (M : Mdl) : NN := M.map fun p => (p.1, p.2.ns)
/-- a backlog's datum -/
structure Rests (M : Mdl) (R : NN) : Prop where
  ok : ROk' (needN M) R
  all : ∀ n ∈ ks M, n ∈ ks R
theorem tI_eq (t : Tk) : tI t = .ins 0 [.int t.e, .int t.w, .tup (t.ns.map D.str)] := rfl
theorem pyEq_str (a b : Str) : pyEq (.str a) (.str b) = decide (a = b) := by
  simp only [pyEq, toPy, PyData.eqv]
  exact Bool.eq_iff_iff.mpr (by simp)

/-- whether a value is one of the names -/
def inB (M : Mdl) (v : D) : Bool := match v with | .str z => decide (z ∈ ks M) | _ => false
theorem tI_inj (a b : Tk) (h : tI a = tI b) : a = b := by
  simp only [tI_eq, D.ins.injEq, true_and, List.cons.injEq, D.int.injEq, D.tup.injEq, and_true] at h
  obtain ⟨h1, h2, h3⟩ := h
  cases a; cases b
  simp only at h1 h2 h3
  rw [h1, h2, map_str_inj h3]
/-- the effort, the worth of a task -/
def eff (M : Mdl) (z : Str) : Int := ((getS M z).getD default).e
def wor (M : Mdl) (z : Str) : Int := ((getS M z).getD default).w
def ned (M : Mdl) (z : Str) : List Str := ((getS M z).getD default).ns
/-- an order -/
structure IsOrd (M : Mdl) (os : List Str) : Prop where
  pm : os.Perm (ks M)
  fw : ∀ (i : Nat) (z : Str), os[i]? = some z → ∀ y ∈ ned M z, y ∈ os.take i
abbrev IntD : Int → D := D.int
theorem MOk.effB {M : Mdl} (h : MOk M) (z : Str) : 0 ≤ eff M z ∧ eff M z ≤ 100 := by
  unfold eff
  cases e : getS M z with
  | none => decide
  | some t =>
    have := h.ok _ (getS_mem e)
    have h1 := this.e1
    have h2 := this.e2
    dsimp only at h1 h2 ⊢
    exact ⟨by simp; omega, by simpa using h2⟩
theorem MOk.worB {M : Mdl} (h : MOk M) (z : Str) : 0 ≤ wor M z ∧ wor M z ≤ 100 := by
  unfold wor
  cases e : getS M z with
  | none => decide
  | some t =>
    have := h.ok _ (getS_mem e)
    have h1 := this.w1
    have h2 := this.w2
    dsimp only at h1 h2 ⊢
    exact ⟨by simpa using h1, by simpa using h2⟩

abbrev rst (R : NN) (x y : Str) : Bool := decide (y ∈ needs R x)
def valO (O : List (Str × Int)) (z : Str) : Int := (getS O z).getD 0
/-- one step of a road -/
def stepR (T : NN) (F : FL.Tr Str) (x y : Str) : Prop := (x ∈ ks T ∧ y ∈ needs T x) ∨ (x ∉ ks T ∧ ∃ a, ((y, x), a) ∈ F)
def chainS (P : Str → Str → Prop) : List Str → Prop
  | a :: b :: r => P a b ∧ chainS P (b :: r)
  | _ => True
structure RoadOk (O : List (Str × Int)) (T : NN) (F : FL.Tr Str) (row : List Str) : Prop where
  nd : row.Nodup
  sub : ∀ z ∈ row, z ∈ ks O
  beg : ∃ a, row.head? = some a ∧ 0 < valO O a
  end_ : ∃ b, row.getLast? = some b ∧ valO O b < 0
  ch : chainS (stepR T F) row
structure MetOk (O : List (Str × Int)) (T : NN) (F : FL.Tr Str) (V : Str → Bool) : Prop where
  beg : ∀ z ∈ ks O, 0 < valO O z → V z = true
  end_ : ∀ z ∈ ks O, V z = true → 0 ≤ valO O z
  st : ∀ z ∈ ks O, V z = true → ∀ y ∈ ks O, stepR T F z y → V y = true
structure RdPre (O : List (Str × Int)) (T : NN) (F : FL.Tr Str) : Prop where
  nd : (ks O).Nodup
  len : O.length ≤ 31
  ln : ∀ z ∈ ks O, LN z
  tk : ∀ z ∈ ks T, z ∈ ks O
  tv : ∀ p ∈ T, p.2.length ≤ 31 ∧ ∀ y ∈ p.2, y ∈ ks O
  fp : ∀ p ∈ F, p.1.1 ∈ ks O ∧ p.1.2 ∈ ks O
  fl : F.length ≤ 2000
structure CInv (O : List (Str × Int)) (T : NN) (F : FL.Tr Str) (C : List (Str × Option Str)) (i : Nat) : Prop where
  nd : (ks C).Nodup
  sub : ∀ z ∈ ks C, z ∈ ks O
  beg : ∀ z ∈ ks O, 0 < valO O z → z ∈ ks C
  fst : ∀ z, (z, none) ∈ C → 0 < valO O z
  par : ∃ r : Str → Nat, ∀ z y, (z, some y) ∈ C → y ∈ ks C ∧ r y < r z ∧ stepR T F y z
  don : ∀ z ∈ (ks C).take i, 0 ≤ valO O z ∧ ∀ y ∈ ks O, stepR T F z y → y ∈ ks C
  at_ : i ≤ C.length
theorem CInv.len {O T F C i} (h : CInv O T F C i) : C.length ≤ O.length := by
  rw [← ks_len, ← ks_len O]; exact nodup_sub_len _ _ h.nd h.sub
/-- one is met -/
theorem CInv.more {O T F C i} (h : CInv O T F C i) {z y : Str} (hz : z ∈ ks C) (hy : y ∉ ks C) (hyO : y ∈ ks O) (hs : stepR T F z y) : CInv O T F (C ++ [(y, some z)]) i := by
  have hk : ks (C ++ [(y, some z)]) = ks C ++ [y] := ks_app _ _
  obtain ⟨r, hr⟩ := h.par
  refine ⟨?_, fun w hw => ?_, fun w hw hp => ?_, fun w hw => ?_, ⟨fun w => if w = y then r z + 1 else r w, fun w u hw => ?_⟩, fun w hw => ?_, by rw [List.length_append]; have := h.at_; omega⟩
  · rw [hk]; exact List.nodup_append.mpr ⟨h.nd, by simp, fun a ha b hb e => hy (by rw [List.mem_singleton.mp hb] at e; rw [← e]; exact ha)⟩
  · rw [hk] at hw
    rcases List.mem_append.mp hw with q | q
    · exact h.sub w q
    · rw [List.mem_singleton.mp q]; exact hyO
  · rw [hk]; exact List.mem_append.mpr (.inl (h.beg w hw hp))
  · rcases List.mem_append.mp hw with q | q
    · exact h.fst w q
    · rw [List.mem_singleton] at q; cases q
  · rw [hk]
    rcases List.mem_append.mp hw with q | q
    · obtain ⟨a, b, c⟩ := hr w u q
      have hwC : w ∈ ks C := List.mem_map.mpr ⟨_, q, rfl⟩
      have n1 : w ≠ y := fun e => hy (by rw [← e]; exact hwC)
      have n2 : u ≠ y := fun e => hy (by rw [← e]; exact a)
      refine ⟨List.mem_append.mpr (.inl a), ?_, c⟩
      show (if u = y then r z + 1 else r u) < (if w = y then r z + 1 else r w)
      rw [if_neg n1, if_neg n2]; exact b
    · rw [List.mem_singleton] at q
      cases q
      have n2 : z ≠ y := fun e => hy (by rw [← e]; exact hz)
      refine ⟨List.mem_append.mpr (.inl hz), ?_, hs⟩
      show (if z = y then r z + 1 else r z) < (if y = y then r z + 1 else r y)
      rw [if_pos rfl, if_neg n2]; exact Nat.lt_succ_self _
  · have hle : i ≤ (ks C).length := by rw [ks_len]; exact h.at_
    rw [hk, List.take_append_of_le_length hle] at hw
    obtain ⟨a, b⟩ := h.don w hw
    exact ⟨a, fun u hu q => by rw [hk]; exact List.mem_append.mpr (.inl (b u hu q))⟩
def fwd : List Str → List (Str × Str)
  | a :: b :: r => (a, b) :: fwd r
  | _ => []
def bck : List Str → List (Str × Str)
  | a :: b :: c :: r => (c, b) :: bck (c :: r)
  | _ => []
/-- positive still, while the road is walked back -/
structure SubOk (F G : FL.Tr Str) (m : Int) (row : List Str) (i : Nat) : Prop where
  nd : (G.map (·.1)).Nodup
  sub : ∀ q ∈ G.map (·.1), q ∈ F.map (·.1)
  same : ∀ q, q ∉ (bck row).take i → FL.getP G q = FL.getP F q
  pos : ∀ p ∈ G, 0 < p.2
structure SendPre (O : List (Str × Int)) (F : FL.Tr Str) (row : List Str) : Prop where
  nd : (ks O).Nodup
  len : O.length ≤ 31
  sub : ∀ z ∈ row, z ∈ ks O
  rn : row.Nodup
  ev : row.length % 2 = 0
  beg : ∃ a, row.head? = some a ∧ 0 < valO O a
  end_ : ∃ b, row.getLast? = some b ∧ valO O b < 0
  fn : (F.map (·.1)).Nodup
  fp : ∀ p ∈ F, p.1.1 ∈ ks O ∧ p.1.2 ∈ ks O ∧ 0 < p.2
  bk : ∀ p ∈ bck row, p ∈ F.map (·.1)
structure SendPost (O : List (Str × Int)) (F : FL.Tr Str) (row : List Str) (O' : List (Str × Int)) (F' : FL.Tr Str) : Prop where
  ko : ks O' = ks O
  kn : (F'.map (·.1)).Nodup
  ex : ∃ m a b : _, 0 < m ∧ row.head? = some a ∧ row.getLast? = some b ∧ m ≤ valO O a ∧ m ≤ - valO O b ∧ (∀ z, valO O' z = valO O z - (if z = a then m else 0) + (if z = b then m else 0)) ∧ ∀ (v : Str → Int) z, FL.over v F' z = FL.over v F z - (if z = a then m else 0) + (if z = b then m else 0)
  fk : ∀ p ∈ F'.map (·.1), p ∈ F.map (·.1) ∨ p ∈ fwd row
  ps : ∀ p ∈ F', 0 < p.2
/-- what the tasks met so far are that reach something lacking -/
structure OutInv (ns : List Str) (R : NN) (v : Str → Int) (F : FL.Tr Str) (O : List (Str × Unit)) : Prop where
  nd : (ks O).Nodup
  out : ∀ z ∈ ks O, FL.Out ns (rst R) v F z
  base : ∀ z ∈ ns, FL.over v F z < 0 → z ∈ ks O
theorem OutInv.len {ns : List Str} {R : NN} {v : Str → Int} {F : FL.Tr Str} {O : List (Str × Unit)} (h : OutInv ns R v F O) : O.length ≤ ns.length := by
  have := nodup_sub_len (ks O) ns h.nd fun z hz => (h.out z hz).mem
  rw [ks_len] at this; exact this
def outC (R : NN) (F : FL.Tr Str) (O : List (Str × Unit)) (z : Str) : Prop := ∃ y, (y ∈ needs R z ∨ ∃ a, ((y, z), a) ∈ F) ∧ y ∈ ks O
theorem OutInv.add {ns : List Str} {R : NN} {v : Str → Int} {F : FL.Tr Str} {O : List (Str × Unit)} (h : OutInv ns R v F O) {z : Str} (hz : z ∈ ns) (hn : z ∉ ks O) (hc : outC R F O z) : OutInv ns R v F (putS O z ()) ∧ (putS O z ()).length = O.length + 1 := by
  have e : ks (putS O z ()) = ks O ++ [z] := by rw [ks_put, if_neg hn]
  refine ⟨⟨?_, fun x hx => ?_, fun x hx hp => ?_⟩, ?_⟩
  · rw [e]; exact List.nodup_append.mpr ⟨h.nd, (by simp), fun a ha b hb => by rw [List.mem_singleton.mp hb]; exact fun q => hn (by rw [← q]; exact ha)⟩
  · rw [e] at hx
    rcases List.mem_append.mp hx with q | q
    · exact h.out x q
    · rw [List.mem_singleton.mp q]
      obtain ⟨y, hy | hy, ho⟩ := hc
      · exact .rest hz (decide_eq_true hy) (h.out y ho)
      · exact .give hz hy (h.out y ho)
  · rw [e]; exact List.mem_append.mpr (.inl (h.base x hx hp))
  · rw [← ks_len, e, List.length_append, ks_len]; rfl
theorem MOk.effP {M : Mdl} (h : MOk M) {z : Str} (hz : z ∈ ks M) : 0 < eff M z := by
  obtain ⟨t, e, ht⟩ := getS_ex hz
  have := (h.ok _ ht).e1
  unfold eff
  rw [e]
  show 0 < t.e
  have h2 : 1 ≤ t.e := this
  omega
theorem eqvAll_strs : ∀ a b : List Str, PyData.eqvAll (toPys (a.map D.str)) (toPys (b.map D.str)) = decide (a = b)
  | [], [] => rfl
  | [], _ :: _ => rfl
  | _ :: _, [] => rfl
  | x :: a, y :: b => by
    have := pyEq_str x y
    unfold pyEq at this
    simp only [List.map_cons, toPys, PyData.eqvAll, eqvAll_strs a b, this]
    rw [Bool.eq_iff_iff]
    simp
theorem pyEq_ns (a b : List Str) : pyEq (nsD a) (nsD b) = decide (a = b) := by
  simp only [pyEq, toPy, nsD, PyData.eqv]
  exact eqvAll_strs a b
theorem pl_ns {a b : List Str} (ha : ∀ n ∈ a, LN n) (hb : ∀ n ∈ b, LN n) : WL.plain (nsD a) = true ∧ WL.plain (nsD b) = true ∧ WL.deep (nsD a) ≤ 64 ∧ WL.deep (nsD b) ≤ 64 := by
  have h1 := deeps_str a
  have h2 := deeps_str b
  refine ⟨?_, ?_, ?_, ?_⟩
  · simp only [nsD, WL.plain]; exact plains_str ha
  · simp only [nsD, WL.plain]; exact plains_str hb
  · simp only [nsD, WL.deep]; omega
  · simp only [nsD, WL.deep]; omega
def frD (a b : Int) : D := .tup [.int (FL.fr a b).1, .int (FL.fr a b).2]

/-- the level of a task: the density of its block -/
def sumW (M : Mdl) (b : List Str) : Int := (b.map (wor M)).sum
def sumE (M : Mdl) (b : List Str) : Int := (b.map (eff M)).sum
def denD (M : Mdl) (b : List Str) : D := frD (sumW M b) (sumE M b)
def blkOf (bs : List (List Str)) (z : Str) : List Str := (bs.find? fun b => decide (z ∈ b)).getD []
theorem sumE_bd {M : Mdl} (hM : MOk M) {b : List Str} (hb : b ≠ []) (hs : ∀ z ∈ b, z ∈ ks M) (hl : b.length ≤ 30) : 1 ≤ sumE M b ∧ sumE M b ≤ 3000 := by
  have hlo : ∀ c : List Str, (∀ z ∈ c, z ∈ ks M) → (c.length : Int) ≤ sumE M c ∧ sumE M c ≤ 100 * c.length := fun c => by
    induction c with
    | nil => intro _; exact ⟨Int.le_refl _, Int.le_refl _⟩
    | cons z c ih =>
      intro hc
      have h1 := ih fun y hy => hc y (.tail _ hy)
      have h2 := hM.effP (hc z (.head _))
      have h3 := (hM.effB z).2
      have e : sumE M (z :: c) = eff M z + sumE M c := by unfold sumE; rw [List.map_cons, List.sum_cons]
      rw [e, List.length_cons]
      omega
  have := hlo b hs
  have : 0 < b.length := List.length_pos_iff.mpr hb
  omega
theorem sumW_bd {M : Mdl} (hM : MOk M) (b : List Str) : 0 ≤ sumW M b ∧ sumW M b ≤ 100 * b.length := by
  induction b with
  | nil => exact ⟨Int.le_refl _, Int.le_refl _⟩
  | cons z c ih =>
    have h3 := hM.worB z
    have e : sumW M (z :: c) = wor M z + sumW M c := by unfold sumW; rw [List.map_cons, List.sum_cons]
    rw [e, List.length_cons]
    omega
structure LvInv (M : Mdl) (bs : List (List Str)) (T : List (Str × D)) : Prop where
  nd : (ks T).Nodup
  sub : ∀ z ∈ ks T, z ∈ ks M
  val : ∀ z ∈ ks T, getS T z = some (denD M (blkOf bs z))
theorem LvInv.len {M : Mdl} {bs : List (List Str)} {T : List (Str × D)} (h : LvInv M bs T) (hM : MOk M) : T.length ≤ 30 := by
  have := nodup_sub_len (ks T) (ks M) h.nd h.sub
  rw [ks_len, ks_len] at this
  exact Nat.le_trans this hM.len
theorem LvInv.put {M : Mdl} {bs : List (List Str)} {T : List (Str × D)} (h : LvInv M bs T) {z : Str} (hz : z ∈ ks M) : LvInv M bs (putS T z (denD M (blkOf bs z))) ∧ (∀ y, y ∈ ks (putS T z (denD M (blkOf bs z))) ↔ y ∈ ks T ∨ y = z) := by
  have hk : ∀ y, y ∈ ks (putS T z (denD M (blkOf bs z))) ↔ y ∈ ks T ∨ y = z := fun y => by
    rw [ks_put]
    by_cases q : z ∈ ks T
    · rw [if_pos q]
      exact ⟨.inl, fun h => h.elim id fun e => by rw [e]; exact q⟩
    · rw [if_neg q, List.mem_append, List.mem_singleton]
  refine ⟨⟨?_, fun y hy => ?_, fun y hy => ?_⟩, hk⟩
  · rw [ks_put]
    by_cases q : z ∈ ks T
    · rw [if_pos q]; exact h.nd
    · rw [if_neg q]; exact List.nodup_append.mpr ⟨h.nd, (by simp), fun a ha b hb => by rw [List.mem_singleton.mp hb]; exact fun q2 => q (by rw [← q2]; exact ha)⟩
  · rcases (hk y).mp hy with q | q
    · exact h.sub y q
    · rw [q]; exact hz
  · rw [getS_put]
    by_cases e : z = y
    · rw [if_pos e, e]
    · rw [if_neg e]
      rcases (hk y).mp hy with q | q
      · exact h.val y q
      · exact absurd q.symm e
theorem SqS.ty {w : D} {ns : List Str} (hw : SqS w ns) : (tyN w).isSome = true := by rcases hw with rfl | rfl <;> rfl

theorem pyEq_ll (a b : List Str) : pyEq (.lst (a.map D.str)) (.lst (b.map D.str)) = decide (a = b) := by
  simp only [pyEq, toPy, PyData.eqv]
  exact eqvAll_strs a b
theorem fr_bd {a e : Int} (h : 0 ≤ a) : 0 ≤ (FL.fr a e).1 ∧ (FL.fr a e).1 ≤ a := ⟨Int.ediv_nonneg h (Int.natCast_nonneg _), Int.ediv_le_self _ h⟩
theorem TaskOk.sorted {e w : Int} {ns : List Str} (h : TaskOk e w ns) : TaskOk e w (srt ns) :=
  ⟨h.e1, h.e2, h.w1, h.w2, fun n hn => h.nm n (mem_srt.mp hn), srt_nodup h.nd, by rw [srt_len]; exact h.ln⟩
theorem srt_filter {l : List Str} (h : srt l = l) (p : Str → Bool) : srt (l.filter p) = l.filter p := by
  refine pw_unique (srt_pw _) ?_ (srt_perm _)
  rw [← h]
  exact (srt_pw l).filter _
theorem MOk.perm {M N : Mdl} (h : MOk M) (hp : N.Perm M) : MOk N := by
  have hk : (ks N).Perm (ks M) := hp.map _
  obtain ⟨r, hr⟩ := h.ac
  exact ⟨hk.nodup_iff.mpr h.nd, fun n hn => h.ln n (hk.mem_iff.mp hn), fun p q => h.ok p (hp.mem_iff.mp q), fun p q => h.st p (hp.mem_iff.mp q), fun p q z hz => hk.mem_iff.mpr (h.cl p (hp.mem_iff.mp q) z hz), ⟨r, fun p q => hr p (hp.mem_iff.mp q)⟩, by rw [hp.length_eq]; exact h.len⟩

/-- a beginning, as an ascending tuple -/
structure Beg (M : Mdl) (s : List Str) : Prop where
  so : srt s = s
  nd : s.Nodup
  sub : ∀ z ∈ s, z ∈ ks M
  cl : ∀ z ∈ s, ∀ y ∈ ned M z, y ∈ s
theorem Beg.len {M : Mdl} {s : List Str} (h : Beg M s) : s.length ≤ M.length := by
  rw [← ks_len]; exact nodup_sub_len _ _ h.nd h.sub
theorem Beg.nil (M : Mdl) : Beg M [] := ⟨(srt_perm []).eq_nil, .nil, (fun _ h => nomatch h), fun _ h => nomatch h⟩
theorem ned_of {M : Mdl} (hM : MOk M) {z : Str} {t : Tk} (h : (z, t) ∈ M) : ned M z = t.ns := by unfold ned; rw [getS_of hM.nd h]; rfl
/-- the tasks of a beginning, and one more -/
theorem Beg.more {M : Mdl} {s : List Str} (h : Beg M s) {z : Str} (hz : z ∈ ks M) (hn : z ∉ s) (hc : ∀ y ∈ ned M z, y ∈ s) : Beg M (srt (s ++ [z])) ∧ (srt (s ++ [z])).length = s.length + 1 := by
  have mem : ∀ y, y ∈ srt (s ++ [z]) ↔ y ∈ s ∨ y = z := fun y => by rw [mem_srt, List.mem_append, List.mem_singleton]
  refine ⟨⟨srt_srt _, srt_nodup (List.nodup_append.mpr ⟨h.nd, (by simp), fun a ha b hb e => hn (by rw [← List.mem_singleton.mp hb, ← e]; exact ha)⟩), fun y hy => ?_, fun y hy x hx => ?_⟩, by rw [srt_len, List.length_append]; rfl⟩
  · rcases (mem y).mp hy with q | q
    · exact h.sub y q
    · rw [q]; exact hz
  · rw [mem]
    rcases (mem y).mp hy with q | q
    · exact .inl (h.cl y q x hx)
    · rw [q] at hx; exact .inl (hc x hx)
theorem exists_max (r : Str → Nat) : ∀ {s : List Str}, s ≠ [] → ∃ z ∈ s, ∀ y ∈ s, r y ≤ r z
  | [], h => absurd rfl h
  | [z], _ => ⟨z, .head _, fun y hy => by rw [List.mem_singleton.mp hy]; exact Nat.le_refl _⟩
  | x :: y :: s, _ => by
    obtain ⟨z, hz, h⟩ := exists_max r (s := y :: s) (List.cons_ne_nil _ _)
    by_cases e : r x ≤ r z
    · exact ⟨z, .tail _ hz, fun w hw => by
        rcases List.mem_cons.mp hw with q | q
        · rw [q]; exact e
        · exact h w q⟩
    · exact ⟨x, .head _, fun w hw => by
        rcases List.mem_cons.mp hw with q | q
        · rw [q]; exact Nat.le_refl _
        · have := h w q; omega⟩
/-- a beginning without its last task -/
theorem Beg.less {M : Mdl} (hM : MOk M) {s : List Str} (h : Beg M s) (hne : s ≠ []) : ∃ z s', Beg M s' ∧ s'.length + 1 = s.length ∧ z ∈ ks M ∧ z ∉ s' ∧ (∀ y ∈ ned M z, y ∈ s') ∧ srt (s' ++ [z]) = s := by
  obtain ⟨r, hr⟩ := hM.ac
  obtain ⟨z, hz, hmax⟩ := exists_max r hne
  have hr' : ∀ x ∈ s, ∀ y ∈ ned M x, r y < r x := fun x hx y hy => by
    obtain ⟨t, et, hm⟩ := getS_ex (h.sub x hx)
    rw [ned_of hM hm] at hy
    exact hr _ hm y hy
  have mem : ∀ y, y ∈ s.filter (fun y => !decide (y = z)) ↔ y ∈ s ∧ y ≠ z := fun y => by rw [List.mem_filter]; simp
  have hper : (s.filter (fun y => !decide (y = z)) ++ [z]).Perm s := by
    have e : ∀ x ∈ s, (!decide (x = z)) = (!(fun y => decide (y = z)) x) := fun x _ => rfl
    have h1 : s.filter (fun y => decide (y = z)) = [z] := by
      have hh : ∀ {l : List Str}, l.Nodup → z ∈ l → l.filter (fun y => decide (y = z)) = [z] := by
        intro l
        induction l with
        | nil => intro _ h; cases h
        | cons x l ih =>
          intro hn hm
          obtain ⟨n1, n2⟩ := List.nodup_cons.mp hn
          by_cases q : x = z
          · rw [List.filter_cons_of_pos (by simpa using q), q]
            congr 1
            refine List.filter_eq_nil_iff.mpr fun y hy => ?_
            have : y ≠ z := fun w => n1 (by rw [q, ← w]; exact hy)
            simpa using this
          · rw [List.filter_cons_of_neg (by simpa using q)]
            exact ih n2 ((List.mem_cons.mp hm).resolve_left fun w => q w.symm)
      exact hh h.nd hz
    have h2 := List.filter_append_perm (fun y => decide (y = z)) s
    rw [h1] at h2
    exact (List.perm_append_comm).trans h2
  refine ⟨z, s.filter (fun y => !decide (y = z)), ⟨srt_filter h.so _, h.nd.filter _, fun y hy => h.sub y ((mem y).mp hy).1, fun y hy x hx => ?_⟩, ?_, h.sub z hz, fun q => ((mem z).mp q).2 rfl, fun y hy => ?_, ?_⟩
  · obtain ⟨y1, y2⟩ := (mem y).mp hy
    refine (mem x).mpr ⟨h.cl y y1 x hx, fun q => ?_⟩
    have := hr' y y1 x hx
    have := hmax y y1
    rw [q] at *
    omega
  · have := hper.length_eq
    rw [List.length_append] at this
    exact this
  · refine (mem y).mpr ⟨h.cl z hz y hy, fun q => ?_⟩
    have := hr' z hz y hy
    rw [q] at this
    omega
  · rw [srt_congr hper, h.so]
/-- what _law_beginnings tells -/
structure Begs (M : Mdl) (L : List (List Str)) : Prop where
  mem : ∀ s, s ∈ L ↔ Beg M s
  nd : L.Nodup
  up : L.Pairwise fun a b => a.length ≤ b.length
  hd : L.head? = some []
theorem ned_ks {M : Mdl} (hM : MOk M) {x y : Str} (hx : x ∈ ks M) (hy : y ∈ ned M x) : y ∈ ks M := by
  obtain ⟨t, et, hm⟩ := getS_ex hx
  rw [ned_of hM hm] at hy
  exact hM.cl _ hm y hy
def moreL (dn s : List Str) : List Str := s.filter fun z => !decide (z ∈ dn)
def CmpL (M : Mdl) (a b : List Str) : Prop := FL.Cmp (sumW M a) (sumE M a) a.length (sumW M b) (sumE M b) b.length
structure Cand (dn s : List Str) : Prop where
  sup : ∀ z ∈ dn, z ∈ s
  lt : dn.length < s.length
structure BestI (M : Mdl) (dn : List Str) (ss : List (List Str)) (best : List Str) : Prop where
  no : best = [] → ∀ s ∈ ss, ¬ Cand dn s
  ex : best ≠ [] → (∃ s, Beg M s ∧ Cand dn s ∧ best = moreL dn s) ∧ ∀ s ∈ ss, Cand dn s → CmpL M (moreL dn s) best
theorem Beg.all {M : Mdl} (hM : MOk M) : Beg M (srt (ks M)) := ⟨srt_srt _, srt_nodup hM.nd, fun z hz => mem_srt.mp hz, fun z hz y hy => mem_srt.mpr (ned_ks hM (mem_srt.mp hz) hy)⟩
theorem mem_moreL {dn s : List Str} {z : Str} : z ∈ moreL dn s ↔ z ∈ s ∧ z ∉ dn := by unfold moreL; rw [List.mem_filter]; simp
theorem Cand.ne {dn s : List Str} (h : Cand dn s) (hn : s.Nodup) : moreL dn s ≠ [] := fun e => by
  have h1 : ∀ z ∈ s, z ∈ dn := fun z hz => Classical.byContradiction fun q => by
    have : z ∈ moreL dn s := mem_moreL.mpr ⟨hz, q⟩
    rw [e] at this; cases this
  have := nodup_sub_len s dn hn h1
  have := h.lt
  omega
theorem BestI.skip {M : Mdl} {dn best s : List Str} {ss : List (List Str)} (h : BestI M dn ss best) (hn : ¬ Cand dn s) : BestI M dn (ss ++ [s]) best :=
  ⟨fun e t ht => (List.mem_append.mp ht).elim (h.no e t) fun q => by rw [List.mem_singleton.mp q]; exact hn,
   fun e => ⟨(h.ex e).1, fun t ht hc => (List.mem_append.mp ht).elim (fun q => (h.ex e).2 t q hc) fun q => absurd hc (by rw [List.mem_singleton.mp q]; exact hn)⟩⟩
theorem BestI.keep {M : Mdl} {dn best s : List Str} {ss : List (List Str)} (h : BestI M dn ss best) (hb : best ≠ []) (hc : CmpL M (moreL dn s) best) : BestI M dn (ss ++ [s]) best :=
  ⟨fun e => absurd e hb, fun e => ⟨(h.ex e).1, fun t ht hcd => (List.mem_append.mp ht).elim (fun q => (h.ex e).2 t q hcd) fun q => by rw [List.mem_singleton.mp q]; exact hc⟩⟩
theorem more_pos {M : Mdl} (hM : MOk M) {dn s : List Str} (hs : Beg M s) (hc : Cand dn s) : moreL dn s ≠ [] ∧ (∀ z ∈ moreL dn s, z ∈ ks M) ∧ (moreL dn s).length ≤ 30 ∧ 1 ≤ sumE M (moreL dn s) ∧ sumE M (moreL dn s) ≤ 3000 := by
  have h1 := hc.ne hs.nd
  have h2 : ∀ z ∈ moreL dn s, z ∈ ks M := fun z hz => hs.sub z (mem_moreL.mp hz).1
  have h3 : (moreL dn s).length ≤ 30 := by
    have a : (moreL dn s).length ≤ s.length := List.length_filter_le _ _
    have := hs.len
    have := hM.len
    omega
  have := sumE_bd hM h1 h2 h3
  exact ⟨h1, h2, h3, this.1, this.2⟩
theorem BestI.new {M : Mdl} (hM : MOk M) {dn best s : List Str} {ss : List (List Str)} (hss : ∀ t ∈ ss, Beg M t) (h : BestI M dn ss best) (hs : Beg M s) (hcs : Cand dn s) (hb : best = [] ∨ CmpL M best (moreL dn s)) : BestI M dn (ss ++ [s]) (moreL dn s) := by
  refine ⟨fun e => absurd e (hcs.ne hs.nd), fun _ => ⟨⟨s, hs, hcs, rfl⟩, fun t ht hct => ?_⟩⟩
  rcases List.mem_append.mp ht with q | q
  · by_cases e : best = []
    · exact absurd hct (h.no e t q)
    · obtain ⟨⟨u, hu, hcu, rfl⟩, h2⟩ := h.ex e
      have p1 := (more_pos hM (hss t q) hct).2.2.2
      have p2 := (more_pos hM hu hcu).2.2.2
      have p3 := (more_pos hM hs hcs).2.2.2
      exact FL.Cmp.trans (by omega) (by omega) (by omega) (h2 t q hct) (hb.resolve_left e)
  · rw [List.mem_singleton.mp q]
    exact FL.Cmp.refl _ _ _
/-- all that repr asks of a datum -/
structure ReD (d : D) : Prop where
  ok : rOk d = true
  sz : rsz d ≤ sizeLine
  dp : rdep d ≤ 60
theorem ReD.of {d : D} (h : ReD d) {P : D → Prop} (hp : P (.str (toR d).shown)) : opReprA d P := opReprA_of h.ok h.sz h.dp hp
theorem lnSafe {z : Str} (h : LN z) : z.cps.toList.all safe = true := by
  have a : ∀ c ∈ abc.cps.toList, safe c = true := by decide +kernel
  exact List.all_eq_true.mpr fun c hc => a c (h.ch c hc)
theorem rOks_strs : ∀ {s : List Str}, (∀ z ∈ s, LN z) → rOks (s.map D.str) = true ∧ rszs (s.map D.str) ≤ 12 * s.length ∧ rdeps (s.map D.str) = 0
  | [], _ => ⟨rfl, Nat.le_refl _, rfl⟩
  | z :: s, h => by
    obtain ⟨a, b, c⟩ := rOks_strs (s := s) fun y hy => h y (.tail _ hy)
    have hz := h z (.head _)
    simp only [List.map_cons, rOks, rOk, rszs, rsz, rdeps, rdep, a, c, lnSafe hz, List.length_cons]
    have := hz.hi
    exact ⟨rfl, by omega, rfl⟩
theorem ReD.ns {s : List Str} (h : ∀ z ∈ s, LN z) (hl : s.length ≤ 1000) : ReD (nsD s) ∧ ReD (.lst (s.map D.str)) := by
  obtain ⟨a, b, c⟩ := rOks_strs h
  refine ⟨⟨a, ?_, ?_⟩, a, ?_, ?_⟩
  · show rszs (s.map D.str) + 4 ≤ sizeLine
    rw [sizeLine_eq]; omega
  · show rdeps (s.map D.str) + 1 ≤ 60
    omega
  · show rszs (s.map D.str) + 4 ≤ sizeLine
    rw [sizeLine_eq]; omega
  · show rdeps (s.map D.str) + 1 ≤ 60
    omega
/-- a fraction of small numbers -/
def FrS (d : D) : Prop := ∃ a b : Int, d = .tup [.int a, .int b] ∧ a.natAbs < 10 ^ 40 ∧ b.natAbs < 10 ^ 40
theorem FrS.two {d : D} (h : FrS d) : ReD (.lst [d, d]) ∧ ReD d := by
  obtain ⟨a, b, rfl, ha, hb⟩ := h
  exact ⟨⟨by simp only [rOk, rOks]; rw [decide_eq_true ha, decide_eq_true hb]; rfl, by simp only [rsz, rszs]; rw [sizeLine_eq]; omega, by simp only [rdep, rdeps]; decide⟩,
    by simp only [rOk, rOks]; rw [decide_eq_true ha, decide_eq_true hb]; rfl, by simp only [rsz, rszs]; rw [sizeLine_eq]; omega, by simp only [rdep, rdeps]; decide⟩
theorem frd_bd (a : Int) {b : Int} (hb : 0 < b) : (FL.fr a b).1.natAbs ≤ a.natAbs ∧ (FL.fr a b).2.natAbs ≤ b.natAbs := by
  have g := FL.gcd_pos' (a := a) hb
  have e1 := congrArg Int.natAbs (FL.fr_mul1 a b)
  have e2 := congrArg Int.natAbs (FL.fr_mul2 a b)
  rw [Int.natAbs_mul, Int.natAbs_natCast] at e1 e2
  have g' : 0 < Int.gcd a b := by omega
  exact ⟨by
    conv => rhs; rw [← e1]
    exact Nat.le_mul_of_pos_right _ g', by
    conv => rhs; rw [← e2]
    exact Nat.le_mul_of_pos_right _ g'⟩
theorem FrS.fr {a b : Int} (hb : 0 < b) (h1 : a.natAbs < 10 ^ 40) (h2 : b.natAbs < 10 ^ 40) : FrS (frD a b) := by
  have := frd_bd a hb
  exact ⟨_, _, rfl, by omega, by omega⟩
theorem rOk_frs : ∀ {E : List (Str × D)}, (∀ z ∈ ks E, LN z) → (∀ p ∈ E, FrS p.2) → rOkp (sk id E) = true ∧ rszp (sk id E) ≤ 120 * E.length ∧ rdepp (sk id E) ≤ 1
  | [], _, _ => ⟨rfl, Nat.le_refl _, Nat.zero_le _⟩
  | (k, v) :: E, h1, h2 => by
    obtain ⟨a, b, c⟩ := rOk_frs (E := E) (fun z hz => h1 z (.tail _ hz)) fun p hp => h2 p (.tail _ hp)
    have hk := h1 k (.head _)
    obtain ⟨t, u, e, ht, hu⟩ := h2 (k, v) (.head _)
    dsimp only at e
    subst e
    rw [sk_cons]
    simp only [id] at a b c ⊢
    simp only [rOkp, rOk, rOks, rszp, rsz, rszs, rdepp, rdep, rdeps, a, lnSafe hk, List.length_cons]
    have := hk.hi
    exact ⟨by rw [decide_eq_true ht, decide_eq_true hu]; rfl, by omega, by omega⟩
theorem ReD.frs {E : List (Str × D)} (h1 : ∀ z ∈ ks E, LN z) (h2 : ∀ p ∈ E, FrS p.2) (hl : E.length ≤ 40) : ReD (.dct (sk id E)) := by
  obtain ⟨a, b, c⟩ := rOk_frs h1 h2
  exact ⟨by simp only [rOk]; exact a, by simp only [rsz]; rw [sizeLine_eq]; omega, by simp only [rdep]; omega⟩
theorem FrS.of {M : Mdl} (hM : MOk M) {c : List Str} (hc : ∀ z ∈ c, z ∈ ks M) (hl : c.length ≤ 30) (hne : c ≠ []) : FrS (denD M c) := by
  have hE := sumE_bd hM hne hc hl
  have hW := sumW_bd hM c
  have h1 := fr_bd (e := sumE M c) hW.1
  have h2 := FL.fr_pos (a := sumW M c) (b := sumE M c) (by omega)
  have h3 : (FL.fr (sumW M c) (sumE M c)).2 ≤ sumE M c := Int.ediv_le_self _ (by omega)
  exact ⟨_, _, rfl, by omega, by omega⟩
def tEq (t u : Tk) : Bool := decide (t.e = u.e) && decide (t.w = u.w) && decide (t.ns = u.ns)
theorem tEq_refl (t : Tk) : tEq t t = true := by unfold tEq; simp
/-- what is a list: its items -/
def itemsV : D → Option (List D)
  | .tup xs => some xs
  | .lst xs => some xs
  | _ => none
theorem SqS.items {v : D} {ns : List Str} (h : SqS v ns) : itemsV v = some (ns.map D.str) := by rcases h with rfl | rfl <;> rfl
/-- what may be asked with -/
structure OddV (v : D) : Prop where
  ty : (tyN v).isSome = true
  it : ∀ xs, itemsV v = some xs → xs.length ≤ 1000 ∧ ∀ x ∈ xs, (tyN x).isSome = true
theorem enumD_len : ∀ (k : Nat) (xs : List D), (enumD k xs).length = xs.length
  | _, [] => by simp [enumD]
  | k, x :: xs => by
    have := enumD_len (k + 1) xs
    simp [enumD, this]
theorem rOk_intsX : ∀ {E : List (Str × Int)}, (∀ z ∈ ks E, LN z) → (∀ p ∈ E, p.2.natAbs < 10 ^ 40) → rOkp (sk IntD E) = true ∧ rszp (sk IntD E) ≤ 60 * E.length ∧ rdepp (sk IntD E) = 0
  | [], _, _ => ⟨rfl, Nat.le_refl _, rfl⟩
  | (k, v) :: E, h1, h2 => by
    obtain ⟨a, b, c⟩ := rOk_intsX (E := E) (fun z hz => h1 z (.tail _ hz)) fun p hp => h2 p (.tail _ hp)
    have hk := h1 k (.head _)
    have hv := h2 (k, v) (.head _)
    dsimp only at hv
    rw [sk_cons]
    simp only [IntD] at a b c ⊢
    simp only [rOkp, rOk, rszp, rsz, rdepp, rdep, a, c, lnSafe hk, List.length_cons]
    have := hk.hi
    exact ⟨by rw [decide_eq_true hv]; rfl, by omega, rfl⟩
theorem ReD.ints {E : List (Str × Int)} (h1 : ∀ z ∈ ks E, LN z) (h2 : ∀ p ∈ E, p.2.natAbs < 10 ^ 40) (hl : E.length ≤ 40) : ReD (.dct (sk IntD E)) := by
  obtain ⟨a, b, c⟩ := rOk_intsX h1 h2
  exact ⟨by simp only [rOk]; exact a, by simp only [rsz]; rw [sizeLine_eq]; omega, by simp only [rdep]; omega⟩
theorem ReD.ne {d : D} (h : ReD d) {A B : Prop} (hB : B) : opReprA d fun x => opReprA d fun y => (WL.plain x = true ∧ WL.plain y = true ∧ WL.deep x ≤ 64 ∧ WL.deep y ≤ 64) ∧ if (!pyEq x y) = true then A else B := by
  refine h.of (h.of ⟨⟨shown_ok h.ok, shown_ok h.ok, by simp [WL.deep], by simp [WL.deep]⟩, ?_⟩)
  rw [pyEq_ss, if_neg (by decide)]
  exact hB
theorem ReD.eq {d : D} (h : ReD d) {A : D → Prop} (hA : A (.bl true)) : opReprA d fun x => opReprA d fun y => (WL.plain x = true ∧ WL.plain y = true ∧ WL.deep x ≤ 64 ∧ WL.deep y ≤ 64) ∧ A (.bl (pyEq x y)) := by
  refine h.of (h.of ⟨⟨shown_ok h.ok, shown_ok h.ok, by simp [WL.deep], by simp [WL.deep]⟩, ?_⟩)
  rw [pyEq_ss]
  exact hA
/-- small data -/
structure SmD (d : D) : Prop where
  ty : (tyN d).isSome = true
  ok : rOk d = true
  sz : rsz d ≤ 1000
  dp : rdep d ≤ 20
theorem SmD.re {d : D} (h : SmD d) : ReD d := ⟨h.ok, by have := h.sz; rw [sizeLine_eq]; omega, by have := h.dp; omega⟩
theorem rOks_sm : ∀ {xs : List D}, (∀ x ∈ xs, SmD x) → rOks xs = true ∧ rszs xs ≤ 1002 * xs.length ∧ rdeps xs ≤ 20
  | [], _ => ⟨rfl, Nat.le_refl _, Nat.zero_le _⟩
  | x :: xs, h => by
    obtain ⟨a, b, c⟩ := rOks_sm (xs := xs) fun y hy => h y (.tail _ hy)
    have hx := h x (.head _)
    have := hx.sz
    have := hx.dp
    simp only [rOks, rszs, rdeps, hx.ok, a, List.length_cons]
    exact ⟨rfl, by omega, by omega⟩
theorem SmD.seq {xs : List D} (h : ∀ x ∈ xs, SmD x) (hl : xs.length ≤ 2000) : ReD (.lst xs) ∧ ReD (.tup xs) := by
  obtain ⟨a, b, c⟩ := rOks_sm h
  exact ⟨⟨a, by show rszs xs + 4 ≤ sizeLine; rw [sizeLine_eq]; omega, by show rdeps xs + 1 ≤ 60; omega⟩, a, by show rszs xs + 4 ≤ sizeLine; rw [sizeLine_eq]; omega, by show rdeps xs + 1 ≤ 60; omega⟩
theorem SmD.str {z : Str} (h : LN z) : SmD (.str z) := ⟨rfl, by simp only [rOk]; exact lnSafe h, by have := h.hi; show z.length + 2 ≤ 1000; omega, Nat.zero_le _⟩

def tyY : D → Bool := fun v => match v with
  | .wtp [] => true
  | v => (tyN v).isSome
theorem sub_abc : ∀ c, c < 127 → subS ⟨#[c]⟩ abc = true → c ∈ abc.cps.toList := by decide +kernel
theorem LN.ofName {z : Str} (h : nameOk z = true) (hs : z.cps.toList.all safe = true) : LN z := by
  simp only [nameOk, isNameD, Bool.and_eq_true, decide_eq_true_eq] at h
  refine ⟨fun c hc => ?_, h.1, h.2.1⟩
  exact sub_abc c (safe_lt (List.all_eq_true.mp hs c hc)).1 (List.all_eq_true.mp h.2.2 c hc)
/-- what a task may be asked to be made of: its needs -/
structure WntV (n : Nat) (v : D) : Prop where
  ty : tyY v = true
  it : ∀ xs, itemsV v = some xs → xs.length ≤ n ∧ ∀ x ∈ xs, okV x ∧ ∀ z, x = .str z → z.cps.toList.all safe = true
/-- the needs of a task: a list, a tuple, or none told -/
def SqW (v : D) (ns : List Str) : Prop := v = .lst (ns.map D.str) ∨ v = .tup (ns.map D.str) ∨ (v = .wtp [] ∧ ns = [])
theorem SqW.inj {v : D} {a b : List Str} (h : SqW v a) (g : SqW v b) : a = b := by
  rcases h with rfl | rfl | ⟨rfl, rfl⟩ <;> rcases g with g | g | ⟨g, g2⟩ <;> first | (cases g; done) | skip
  · exact map_str_inj (D.lst.inj g)
  · exact map_str_inj (D.tup.inj g)
  · exact g2.symm
def NamesV (v : D) : Prop := ∃ ns, SqW v ns ∧ (∀ n ∈ ns, nameOk n = true) ∧ ns.Nodup
def EffV (v : D) : Prop := ∃ e, v = .int e ∧ 1 ≤ e ∧ e ≤ 100
def WorV (v : D) : Prop := ∃ e, v = .int e ∧ 0 ≤ e ∧ e ≤ 100
def NeeV (v : D) : Prop := ∃ ns, SqW v ns ∧ (∀ n ∈ ns, nameOk n = true) ∧ ns.Nodup ∧ ns.length < 30
def GoodP (a b c : D) : Prop := EffV a ∧ WorV b ∧ NeeV c
def BadP (a b c : D) (w : Str) : Prop := (w = "effort" ∧ ¬ EffV a) ∨ (w = "worth" ∧ EffV a ∧ ¬ WorV b) ∨ (w = "needs" ∧ EffV a ∧ WorV b ∧ ¬ NeeV c)
theorem badP_good {a b c : D} {w : Str} (h : BadP a b c w) (g : GoodP a b c) : False := by
  rcases h with ⟨_, h⟩ | ⟨_, _, h⟩ | ⟨_, _, _, h⟩
  · exact h g.1
  · exact h g.2.1
  · exact h g.2.2
theorem badP_uniq {a b c : D} {w w' : Str} (h : BadP a b c w) (g : BadP a b c w') : w = w' := by
  rcases h with ⟨e, h⟩ | ⟨e, h1, h⟩ | ⟨e, h1, h2, h⟩ <;> rcases g with ⟨e', g⟩ | ⟨e', g1, g⟩ | ⟨e', g1, g2, g⟩ <;> first | (rw [e, e']; done) | (exfalso; first | exact h g1 | exact g h1 | exact h g2 | exact g h2)
theorem GoodP.ok {a b c : D} (h : GoodP a b c) : ∃ e w ns, a = .int e ∧ b = .int w ∧ SqW c ns ∧ TaskOk e w ns := by
  obtain ⟨⟨e, rfl, e1, e2⟩, ⟨w, rfl, w1, w2⟩, ns, hs, hn, hd, hl⟩ := h
  exact ⟨e, w, ns, rfl, rfl, hs, e1, e2, w1, w2, hn, hd, hl⟩
/-- all names: the texts -/
theorem names_all : ∀ {xs : List D}, xs.all isNameD = true → ∃ ns : List Str, xs = ns.map D.str ∧ ∀ n ∈ ns, nameOk n = true
  | [], _ => ⟨[], rfl, fun _ h => nomatch h⟩
  | x :: xs, h => by
    rw [List.all_cons, Bool.and_eq_true] at h
    obtain ⟨ns, rfl, hn⟩ := names_all h.2
    cases x with
    | str z => exact ⟨z :: ns, rfl, fun n hn' => by
        rcases List.mem_cons.mp hn' with rfl | q
        · exact h.1
        · exact hn n q⟩
    | _ => exact absurd h.1 (by simp [isNameD])
theorem nodup_takes : ∀ {ns : List Str}, (∀ (i : Nat) (n : Str), ns[i]? = some n → n ∉ ns.take i) ↔ ns.Nodup := by
  intro ns
  constructor
  · intro h
    refine List.pairwise_iff_getElem.mpr fun i j hi hj hij e => ?_
    refine h j _ (List.getElem?_eq_getElem hj) (List.mem_take_iff_getElem.mpr ⟨i, by omega, ?_⟩)
    exact e
  · intro h i n hn
    exact nodup_take h hn
def fNd (ns : List Str) : D → Bool := fun x => match x with
  | .tup [.int i, .str n] => decide (n ∉ ns.take i.toNat)
  | _ => false
theorem fNd_all (ns : List Str) : (((enumD 0 (ns.map D.str)).map (fNd ns)).all id) = true ↔ ns.Nodup := by
  rw [← nodup_takes, List.all_map, List.all_eq_true]
  constructor
  · intro h i n hn
    have := h (.tup [.int i, .str n]) (List.mem_iff_getElem?.mpr ⟨i, by rw [enumD_get, List.getElem?_map, hn, Nat.zero_add]; rfl⟩)
    exact of_decide_eq_true this
  · intro h x hx
    obtain ⟨i, hi⟩ := List.mem_iff_getElem?.mp hx
    rw [enumD_get] at hi
    obtain ⟨y, hy, rfl⟩ := Option.map_eq_some_iff.mp hi
    rw [List.getElem?_map] at hy
    obtain ⟨n, hn', rfl⟩ := Option.map_eq_some_iff.mp hy
    exact decide_eq_true (by rw [Nat.zero_add]; exact h i n hn')

/-- data of the law: needs of any kind -/
structure NeV (n : Nat) (v : D) : Prop where
  ty : (tyN v).isSome = true
  re : ReD v
  it : ∀ xs, itemsV v = some xs → xs.length ≤ n ∧ ∀ x ∈ xs, SmD x ∧ okV x
def SafeV (v : D) : Prop := ∀ z, v = .str z → z.cps.toList.all safe = true
theorem SmD.safe {x : D} (h : SmD x) : SafeV x := fun z e => by
  subst e
  have := h.ok
  simpa only [rOk] using this
theorem NeV.wnt {n : Nat} {v : D} (h : NeV n v) : WntV n v := by
  refine ⟨?_, fun xs e => ⟨(h.it xs e).1, fun x hx => ⟨((h.it xs e).2 x hx).2, ((h.it xs e).2 x hx).1.safe⟩⟩⟩
  have := h.ty
  cases v <;> first | exact this | (simp [tyN] at this)
theorem WntV.up {n m : Nat} {v : D} (h : WntV n v) (hn : n ≤ m) : WntV m v := ⟨h.ty, fun xs e => ⟨Nat.le_trans (h.it xs e).1 hn, (h.it xs e).2⟩⟩
def gNs : D → Option D := fun x => match x with
  | .str y => if subS y abc = true then none else some (.str y)
  | _ => none
theorem safe_sok {c : Nat} (h : safe c = true) : PyData.strOk ⟨#[c]⟩ = true := by
  have := (safe_lt h).1
  show (#[c] : Array Nat).all (· < 0x110000) = true
  simp
  omega
theorem gNs_pl : ∀ (l : List Nat), l.all safe = true → WL.plains ((l.map fun c => D.str ⟨#[c]⟩).filterMap gNs) = true ∧ WL.deeps ((l.map fun c => D.str ⟨#[c]⟩).filterMap gNs) ≤ 1
  | [], _ => ⟨rfl, Nat.zero_le _⟩
  | c :: l, h => by
    rw [List.all_cons, Bool.and_eq_true] at h
    obtain ⟨h1, h2⟩ := gNs_pl l h.2
    rw [List.map_cons, List.filterMap_cons]
    by_cases q : subS ⟨#[c]⟩ abc = true
    · rw [show gNs (.str ⟨#[c]⟩) = none from if_pos q]
      exact ⟨h1, h2⟩
    · rw [show gNs (.str ⟨#[c]⟩) = some (.str ⟨#[c]⟩) from if_neg q]
      simp only [WL.plains, WL.deeps, WL.plain, WL.deep, h1, safe_sok h.1]
      exact ⟨rfl, by omega⟩
theorem gNs_empty : ∀ (l : List Nat), ((l.map fun c => D.str ⟨#[c]⟩).filterMap gNs).isEmpty = l.all fun c => subS ⟨#[c]⟩ abc
  | [] => rfl
  | c :: l => by
    rw [List.map_cons, List.filterMap_cons, List.all_cons, ← gNs_empty l]
    by_cases q : subS ⟨#[c]⟩ abc = true
    · rw [show gNs (.str ⟨#[c]⟩) = none from if_pos q, q]; rfl
    · rw [show gNs (.str ⟨#[c]⟩) = some (.str ⟨#[c]⟩) from if_neg q, show subS ⟨#[c]⟩ abc = false from by simpa using q]; rfl
def gBadN : D → Option D := fun x => if isNameD x = true then none else some x
theorem gBadN_empty : ∀ (xs : List D), (xs.filterMap gBadN).isEmpty = xs.all isNameD
  | [] => rfl
  | x :: xs => by
    rw [List.filterMap_cons, List.all_cons, ← gBadN_empty xs]
    by_cases q : isNameD x = true
    · rw [show gBadN x = none from if_pos q, q]; rfl
    · rw [show gBadN x = some x from if_neg q, show isNameD x = false from by simpa using q]; rfl
theorem uniq_len (l : List Str) : (WL.uniq l.reverse).length = l.reverse.length ↔ l.reverse.Nodup := by
  induction l with
  | nil => simp [WL.uniq]
  | cons x l ih =>
    rw [List.reverse_cons, WL.uniq_snoc, List.nodup_append]
    have h1 := (WL.uniq_ok l.reverse).2.1
    have h2 := (WL.uniq_ok l.reverse).2.2 x
    by_cases q : x ∈ WL.uniq l.reverse
    · rw [if_pos q, List.length_append]
      refine ⟨fun e => ?_, fun e => ?_⟩
      · simp at e h1; omega
      · exact absurd rfl (e.2.2 x (h2.mp q) x (by simp))
    · rw [if_neg q, List.length_append, List.length_append, ← ih]
      refine ⟨fun e => ⟨by simpa using e, by simp, fun a ha b hb e2 => ?_⟩, fun e => by rw [e.1]⟩
      rw [List.mem_singleton] at hb
      subst hb; subst e2
      exact q (h2.mpr ha)
theorem uniq_nd {ss : List Str} : (WL.uniq ss).length = ss.length ↔ ss.Nodup := by
  have := uniq_len ss.reverse
  rwa [List.reverse_reverse] at this

theorem spare_ln {c1 c2 : Nat} (h1 : c1 ∈ ("abcdef" : Str).cps.toList) (h2 : c2 ∈ ("ghijk" : Str).cps.toList) : LN ("q" ++ (⟨#[c1]⟩ : Str) ++ (⟨#[c2]⟩ : Str)) := by
  have e : (("q" : Str) ++ (⟨#[c1]⟩ : Str) ++ (⟨#[c2]⟩ : Str)).cps.toList = [113, c1, c2] := by rw [app_l, app_l, q_l]; rfl
  have a1 : ∀ c ∈ ("abcdef" : Str).cps.toList, c ∈ abc.cps.toList := by decide +kernel
  have a2 : ∀ c ∈ ("ghijk" : Str).cps.toList, c ∈ abc.cps.toList := by decide +kernel
  have a3 : 113 ∈ abc.cps.toList := by decide +kernel
  have hl := ln_l (n := 3) (by rw [e]; rfl)
  refine ⟨fun c hc => ?_, by omega, by omega⟩
  rw [e] at hc
  simp only [List.mem_cons, List.not_mem_nil, or_false] at hc
  rcases hc with rfl | rfl | rfl
  · exact a3
  · exact a1 _ h1
  · exact a2 _ h2
theorem cons_eq {f : FE} {g : FA} {ρ : EnvD} (d : D) {K : EnvD → List D → Prop} (h : ∀ Kc : EnvD → D → Prop, Kc ρ d → f ρ Kc) (hk : g ρ fun ρ2 ds => K ρ2 (d :: ds)) : fCons f g ρ K := h _ hk
theorem NeV.up {n m : Nat} {v : D} (h : NeV n v) (hn : n ≤ m) : NeV m v := ⟨h.ty, h.re, fun xs e => ⟨by have := (h.it xs e).1; omega, (h.it xs e).2⟩⟩
theorem NeV.seq {n : Nat} {xs : List D} (h : ∀ x ∈ xs, SmD x ∧ okV x) (hl : xs.length ≤ n) (hn : n ≤ 100) : NeV n (.lst xs) ∧ NeV n (.tup xs) := by
  obtain ⟨r1, r2⟩ := SmD.seq (fun x hx => (h x hx).1) (by omega)
  exact ⟨⟨rfl, r1, fun ys e => by cases e; exact ⟨hl, h⟩⟩, ⟨rfl, r2, fun ys e => by cases e; exact ⟨hl, h⟩⟩⟩
theorem sm_name {z : Str} (h : LN z) : SmD (.str z) ∧ okV (.str z) := ⟨SmD.str h, okV_name h.ok⟩
theorem outs_ln {rs ys : List D} (ho : WL.Outs (fun _ o => ∃ z, o = some (D.str z) ∧ LN z) rs ys) : ∃ zs : List Str, ys = zs.map D.str ∧ (∀ z ∈ zs, LN z) ∧ zs.length ≤ rs.length := by
  induction ho with
  | nil => exact ⟨[], rfl, (fun _ h => nomatch h), Nat.le_refl _⟩
  | put h _ ih =>
    obtain ⟨z, e, hz⟩ := h
    cases e
    obtain ⟨zs, rfl, h1, h2⟩ := ih
    refine ⟨z :: zs, rfl, fun y hy => ?_, by simpa using h2⟩
    rcases List.mem_cons.mp hy with rfl | q
    · exact hz
    · exact h1 y q
  | drop _ _ ih =>
    obtain ⟨zs, rfl, h1, h2⟩ := ih
    exact ⟨zs, rfl, h1, by simp; omega⟩

theorem BadP.sm {a b c : D} {w : Str} (h : BadP a b c w) : SmD (.str w) := by
  rcases h with ⟨rfl, _⟩ | ⟨rfl, _⟩ | ⟨rfl, _⟩ <;> exact ⟨rfl, by decide +kernel, by decide +kernel, by decide +kernel⟩

def gFs (ns : List Str) : D → Option D := fun x => match x with
  | .str z => if z ∈ ns then none else some (.str z)
  | _ => none
theorem gFs_map (ns zs : List Str) : (zs.map D.str).filterMap (gFs ns) = (zs.filter fun z => !decide (z ∈ ns)).map D.str := by
  induction zs with
  | nil => rfl
  | cons z zs ih =>
    rw [List.map_cons, List.filterMap_cons]
    by_cases h : z ∈ ns
    · rw [show gFs ns (.str z) = none from if_pos h, ih, List.filter_cons_of_neg (by simp [h])]
    · rw [show gFs ns (.str z) = some (.str z) from if_neg h, ih, List.filter_cons_of_pos (by simp [h])]; rfl
def qqq : List Str := ["q", "qq", "qqq"]
theorem qqq_ln : ∀ z ∈ qqq, LN z := fun z hz => LN.of (List.all_eq_true.mp (show qqq.all lnB = true by decide +kernel) z hz)
/-- a near one -/
def NearP (v : D) : Prop := ∃ (e w : Int) (c : D) (ns : List Str), v = .tup [.int e, .int w, c] ∧ (c = .lst (ns.map D.str) ∨ c = .tup (ns.map D.str)) ∧ TaskOk e w ns ∧ ∀ z ∈ ns, LN z
theorem pyEq_bb (a b : Bool) : pyEq (.bl a) (.bl b) = (a == b) := by cases a <;> cases b <;> decide
theorem wnt_names {c : D} {ns : List Str} (hc : c = .lst (ns.map D.str) ∨ c = .tup (ns.map D.str)) (h : ∀ z ∈ ns, LN z) (hl : ns.length ≤ 100) : WntV 1000 c := by
  have hall : ∀ x ∈ ns.map D.str, okV x ∧ ∀ z, x = .str z → z.cps.toList.all safe = true := fun x hx => by
    obtain ⟨z, hz, rfl⟩ := List.mem_map.mp hx
    exact ⟨okV_name (h z hz).ok, (SmD.str (h z hz)).safe⟩
  rcases hc with rfl | rfl
  · exact ⟨rfl, fun xs e => by cases e; exact ⟨by rw [List.length_map]; omega, hall⟩⟩
  · exact ⟨rfl, fun xs e => by cases e; exact ⟨by rw [List.length_map]; omega, hall⟩⟩
theorem pyEq_two (a b c d : Int) : pyEq (.tup [.int a, .int b]) (.tup [.int c, .int d]) = (decide (a = c) && decide (b = d)) := by
  have h1 := pyEq_ii a c
  have h2 := pyEq_ii b d
  simp only [pyEq, toPy, toPys, PyData.eqv, PyData.eqvAll] at h1 h2 ⊢
  rw [h1, h2, Bool.and_true]
theorem sepsL : ∀ (l : List Str), WL.sepDs true false (l.map D.str) = true
  | [] => rfl
  | z :: l => by
    simp only [List.map_cons, WL.sepDs, WL.sepD, sepsL l]
    rfl
theorem sm_ns {ns : List Str} (h : ∀ z ∈ ns, LN z) (hl : ns.length ≤ 40) : SmD (.tup (ns.map D.str)) := by
  obtain ⟨a, b, c⟩ := rOks_strs h
  exact ⟨rfl, a, by show rszs _ + 4 ≤ 1000; omega, by show rdeps _ + 1 ≤ 20; omega⟩
theorem sep_task (t : Tk) : WL.sepD true false (tI t) = true := by
  simp only [tI, WL.sepD, WL.sepDs, sepsL]
  rfl

/-! ### is_name -/
def m_is_name : Spc := { ar := 1, pre := fun ds => ∃ v, ds = [v] ∧ okV v, post := fun ds d => ∃ v, ds = [v] ∧ d = .bl (isNameD v) }
/-! ### is_number -/
def m_is_number : Spc := { ar := 1, pre := fun ds => ∃ v, ds = [v] ∧ (tyN v).isSome = true, post := fun ds d => ∃ v, ds = [v] ∧ d = .bl (isNum v) }
/-! ### is_list -/
def m_is_list : Spc := { ar := 1, pre := fun ds => ∃ v, ds = [v] ∧ tyY v = true, post := fun ds d => ∃ v, ds = [v] ∧ d = .bl (match v with | .lst _ => true | .tup _ => true | .wtp _ => true | _ => false) }
/-! ### Task.effort -/
def m_Task_effort : Spc := { ar := 1, pre := fun ds => ∃ t, ds = [tI t], post := fun ds d => ∃ t, ds = [tI t] ∧ d = .int t.e }
/-! ### Task.worth -/
def m_Task_worth : Spc := { ar := 1, pre := fun ds => ∃ t, ds = [tI t], post := fun ds d => ∃ t, ds = [tI t] ∧ d = .int t.w }
/-! ### Task.needs -/
def m_Task_needs : Spc := { ar := 1, pre := fun ds => ∃ t, ds = [tI t], post := fun ds d => ∃ t, ds = [tI t] ∧ d = .tup (t.ns.map D.str) }
/-! ### Task.__eq__ -/
def m_Task___eq__ : Spc := { ar := 2, pre := fun ds => ∃ (t : Tk) (v : D), ds = [tI t, v] ∧ (∀ z ∈ t.ns, LN z) ∧ ((tyN v).isSome = true ∨ ∃ u : Tk, v = tI u ∧ ∀ z ∈ u.ns, LN z), post := fun ds d => ∃ (t : Tk) (v : D), ds = [tI t, v] ∧ (((tyN v).isSome = true ∧ d = .bl false) ∨ ∃ u : Tk, v = tI u ∧ d = .bl (tEq t u)) }
/-! ### _law_is_number -/
def m__law_is_number : Spc := { ar := 1, pre := fun ds => ∃ v, ds = [v] ∧ (tyN v).isSome = true, post := fun ds d => ∃ v, ds = [v] ∧ d = .bl (isNum v) }
/-! ### _law_is_word -/
def m__law_is_word : Spc := { ar := 1, pre := fun ds => ∃ v, ds = [v] ∧ okV v ∧ SafeV v, post := fun ds d => ∃ v, ds = [v] ∧ d = .bl (isNameD v) }
/-! ### are_names -/
def m_are_names : Spc := { ar := 1, pre := fun ds => ∃ v, ds = [v] ∧ WntV 1000 v, post := fun ds d => ∃ v, ds = [v] ∧ ((d = .bl true ∧ NamesV v) ∨ (d = .bl false ∧ ¬ NamesV v)) }
/-! ### _law_due -/
def m__law_due : Spc := { ar := 1, pre := fun ds => ∃ a b c, ds = [.tup [a, b, c]] ∧ SmD a ∧ SmD b ∧ NeV 100 c, post := fun ds d => ∃ a b c, ds = [.tup [a, b, c]] ∧ ((GoodP a b c ∧ d = .non) ∨ ∃ w, BadP a b c w ∧ d = .str w) }
/-! ### Task.__init__ -/
def m_Task___init__ : Spc := { ar := 3, pre := fun ds => ∃ a b c, ds = [a, b, c] ∧ (tyN a).isSome = true ∧ (tyN b).isSome = true ∧ WntV 1000 c, post := fun ds d => ∃ e w c ns, ds = [.int e, .int w, c] ∧ SqW c ns ∧ TaskOk e w ns ∧ d = tI ⟨e, w, srt ns⟩, exc := fun ds e => ∃ a b c w, ds = [a, b, c] ∧ BadP a b c w ∧ e = .exc 1 [.str w] }
/-! ### _law_pick -/
def m__law_pick : Spc := { ar := 2, pre := fun ds => (∃ xs, ds = [.tok 0, .lst xs] ∧ 0 < xs.length ∧ xs.length ≤ 1000) ∨ (∃ z, ds = [.tok 0, .str z] ∧ 0 < z.length ∧ z.length ≤ 1000) ∨ (∃ xs, ds = [.tok 0, .tup xs] ∧ 0 < xs.length ∧ xs.length ≤ 1000), post := fun ds d => (∃ xs, ds = [.tok 0, .lst xs] ∧ d ∈ xs) ∨ (∃ z c, ds = [.tok 0, .str z] ∧ c ∈ z.cps.toList ∧ d = .str ⟨#[c]⟩) ∨ (∃ xs, ds = [.tok 0, .tup xs] ∧ d ∈ xs), cost := 1 }
/-! ### _law_shuffled -/
def m__law_shuffled : Spc := { ar := 2, pre := fun ds => ∃ (v : D) (xs : List D), ds = [.tok 0, v] ∧ (v = .tup xs ∨ v = .lst xs) ∧ xs.length ≤ 1000 ∧ WL.plains xs = true ∧ WL.deeps xs ≤ 60, post := fun ds d => ∃ (v : D) (xs ys : List D), ds = [.tok 0, v] ∧ (v = .tup xs ∨ v = .lst xs) ∧ d = .lst ys ∧ ys.Perm xs, cost := 2000 }
/-! ### _law_drawn_names -/
def m__law_drawn_names : Spc := { ar := 2, pre := fun ds => ∃ n : Nat, ds = [.tok 0, .int n] ∧ n ≤ 31, post := fun ds d => ∃ (n : Nat) (ns : List Str), ds = [.tok 0, .int n] ∧ d = .lst (ns.map D.str) ∧ ns.length = n ∧ ns.Nodup ∧ ∀ z ∈ ns, LN z, cost := 2 ^ 40 }
/-! ### _law_numbers -/
def m__law_numbers : Spc := { ar := 1, pre := fun ds => ds = [.tok 0], post := fun ds d => ∃ e w : Int, d = .tup [.int e, .int w] ∧ 1 ≤ e ∧ e ≤ 100 ∧ 0 ≤ w ∧ w ≤ 100, cost := 10 }
/-! ### _law_bent -/
def m__law_bent : Spc := { ar := 2, pre := fun ds => ∃ a b c n, ds = [.tok 0, .tup [a, b, c]] ∧ SmD a ∧ SmD b ∧ NeV n c ∧ (∃ xs, itemsV c = some xs) ∧ n ≤ 60, post := fun ds d => ∃ a b c a' b' c', ds = [.tok 0, .tup [a, b, c]] ∧ d = .tup [a', b', c'] ∧ SmD a' ∧ SmD b' ∧ ∀ n, n ≤ 60 → NeV n c → NeV (n + 31) c', cost := 100 }
/-! ### _law_apart_right -/
def m__law_apart_right : Spc := { ar := 3, pre := fun ds => ∃ (e w : Int) (c : D) (ns : List Str), ds = [.tok 0, tI ⟨e, w, srt ns⟩, .tup [.int e, .int w, c]] ∧ (c = .lst (ns.map D.str) ∨ c = .tup (ns.map D.str)) ∧ TaskOk e w ns ∧ (∀ z ∈ ns, LN z), post := fun ds d => d = .bl true }
/-! ### _law_refused -/
def m__law_refused : Spc := { ar := 2, pre := fun ds => ∃ a b c w, ds = [.tup [a, b, c], .str w] ∧ SmD a ∧ SmD b ∧ NeV 100 c ∧ BadP a b c w, post := fun ds d => d = .bl true }
/-! ### law -/


theorem shufX_post {v : D} {xs : List D} {d : D} (hv : v = .tup xs ∨ v = .lst xs) (h : m__law_shuffled.post [.tok 0, v] d) : ∃ ys : List D, d = .lst ys ∧ ys.Perm xs := by
  obtain ⟨v', xs', ys, e, hv', rfl, hp⟩ := h
  simp only [List.cons.injEq, true_and, and_true] at e
  subst e
  have : xs = xs' := by
    rcases hv with rfl | rfl <;> rcases hv' with e | e <;> first | (cases e; rfl) | cases e
  rw [this]
  exact ⟨ys, rfl, hp⟩
theorem shuf_pre {v : D} {ns : List Str} (hv : SqS v ns) (hl : ns.length ≤ 1000) (hn : ∀ n ∈ ns, LN n) : m__law_shuffled.pre [.tok 0, v] :=
  ⟨v, ns.map D.str, rfl, hv, by rw [List.length_map]; exact hl, plains_str hn, Nat.le_trans (deeps_str ns) (by decide)⟩
theorem perm_strs {ys : List D} {ns : List Str} (h : ys.Perm (ns.map D.str)) : ∃ ms : List Str, ys = ms.map D.str ∧ ms.Perm ns := by
  obtain ⟨ms, hp, e⟩ := WL.perm_unmap h
  exact ⟨ms, e, hp⟩
theorem shuf_post {v : D} {ns : List Str} {d : D} (hv : SqS v ns) (h : m__law_shuffled.post [.tok 0, v] d) : ∃ ms : List Str, d = .lst (ms.map D.str) ∧ ms.Perm ns := by
  obtain ⟨ys, rfl, hp⟩ := shufX_post (xs := ns.map D.str) hv h
  obtain ⟨ms, rfl, hp2⟩ := perm_strs hp
  exact ⟨ms, rfl, hp2⟩

theorem pick_of {xs : List D} {d : D} (hd : m__law_pick.post [.tok 0, .lst xs] d) : d ∈ xs := by
  rcases hd with ⟨ys, e, hm⟩ | ⟨z, c, e, _⟩ | ⟨ws, e, _⟩
  · simp only [List.cons.injEq, D.lst.injEq, true_and, and_true] at e
    rw [e]; exact hm
  · simp at e
  · simp at e
theorem take_ofs {n : Int} {d : D} (hd : mTake.post [.tok 0, .int n] d) : ∃ i : Int, d = .int i ∧ 0 ≤ i ∧ i < n := by
  obtain ⟨m, i, e, rfl, h0, h1⟩ := hd
  simp at e
  exact ⟨i, rfl, h0, by omega⟩

theorem mk_good {a b c d : D} (h : m_Task___init__.post [a, b, c] d) : ∃ e w ns, a = .int e ∧ b = .int w ∧ SqW c ns ∧ TaskOk e w ns ∧ d = tI ⟨e, w, srt ns⟩ := by
  obtain ⟨e, w, c', ns, q, h1, h2, rfl⟩ := h
  simp only [List.cons.injEq, and_true] at q
  obtain ⟨rfl, rfl, rfl⟩ := q
  exact ⟨e, w, ns, rfl, rfl, h1, h2, rfl⟩
theorem mk_goodP {a b c d : D} (h : m_Task___init__.post [a, b, c] d) : GoodP a b c := by
  obtain ⟨e, w, ns, rfl, rfl, hs, T, _⟩ := mk_good h
  exact ⟨⟨e, rfl, T.e1, T.e2⟩, ⟨w, rfl, T.w1, T.w2⟩, ns, hs, T.nm, T.nd, T.ln⟩
theorem mk_exc {a b c e : D} (h : m_Task___init__.exc [a, b, c] e) : ∃ w, BadP a b c w ∧ e = .exc 1 [.str w] := by
  obtain ⟨a', b', c', w, q, h1, rfl⟩ := h
  simp only [List.cons.injEq, and_true] at q
  obtain ⟨rfl, rfl, rfl⟩ := q
  exact ⟨w, h1, rfl⟩
theorem teq_post {t u : Tk} {d : D} (h : m_Task___eq__.post [tI t, tI u] d) : d = .bl (tEq t u) := by
  obtain ⟨t', v, e, h⟩ := h
  simp only [List.cons.injEq, and_true] at e
  obtain ⟨e1, rfl⟩ := e
  obtain rfl := tI_inj _ _ e1
  rcases h with ⟨h, _⟩ | ⟨u', e2, rfl⟩
  · cases h
  · rw [tI_inj _ _ e2]
theorem teqy_post {t : Tk} {v d : D} (hv : (tyN v).isSome = true) (h : m_Task___eq__.post [tI t, v] d) : d = .bl false := by
  obtain ⟨t', v', e, h⟩ := h
  simp only [List.cons.injEq, and_true] at e
  obtain ⟨e1, rfl⟩ := e
  rcases h with ⟨_, rfl⟩ | ⟨u', rfl, rfl⟩
  · rfl
  · cases hv

theorem due_post {a b c d : D} (h : m__law_due.post [.tup [a, b, c]] d) : (GoodP a b c ∧ d = .non) ∨ ∃ w, BadP a b c w ∧ d = .str w := by
  obtain ⟨a', b', c', e, h⟩ := h
  simp only [List.cons.injEq, D.tup.injEq, and_true] at e
  obtain ⟨rfl, rfl, rfl⟩ := e
  exact h

theorem bent_post {a b c d : D} {n : Nat} (hc : NeV n c) (hn : n ≤ 60) (h : m__law_bent.post [.tok 0, .tup [a, b, c]] d) : ∃ a' b' c', d = .tup [a', b', c'] ∧ SmD a' ∧ SmD b' ∧ NeV (n + 31) c' := by
  obtain ⟨a0, b0, c0, a', b', c', e, h1, h2, h3, h4⟩ := h
  simp only [List.cons.injEq, D.tup.injEq, and_true, true_and] at e
  obtain ⟨rfl, rfl, rfl⟩ := e
  exact ⟨a', b', c', h1, h2, h3, h4 n hn hc⟩
theorem sc_is_name : FnScope ["value", "letter"] ["value"] (defScope (top 11)) := ⟨rfl, rfl, rfl, by decide +kernel, rfl, by decide +kernel, by decide +kernel⟩
theorem sc_is_number : FnScope ["value"] ["value"] (defScope (top 12)) := ⟨rfl, rfl, rfl, by decide +kernel, rfl, by decide +kernel, by decide +kernel⟩
theorem sc_is_list : FnScope ["value"] ["value"] (defScope (top 13)) := ⟨rfl, rfl, rfl, by decide +kernel, rfl, by decide +kernel, by decide +kernel⟩
theorem sc_Task_effort : FnScope ["self"] ["self"] (defScope (inClass (top 15) 1)) := ⟨rfl, rfl, rfl, by decide +kernel, rfl, by decide +kernel, by decide +kernel⟩
theorem sc_Task_worth : FnScope ["self"] ["self"] (defScope (inClass (top 15) 2)) := ⟨rfl, rfl, rfl, by decide +kernel, rfl, by decide +kernel, by decide +kernel⟩
theorem sc_Task_needs : FnScope ["self"] ["self"] (defScope (inClass (top 15) 3)) := ⟨rfl, rfl, rfl, by decide +kernel, rfl, by decide +kernel, by decide +kernel⟩
theorem sc_Task___eq__ : FnScope ["self", "other"] ["self", "other"] (defScope (inClass (top 15) 4)) := ⟨rfl, rfl, rfl, by decide +kernel, rfl, by decide +kernel, by decide +kernel⟩
theorem sc__law_begun : FnScope ["_law_script", "_law_wide", "_law_cell"] ["_law_script"] (defScope (top 17)) := ⟨rfl, rfl, rfl, by decide +kernel, rfl, by decide +kernel, by decide +kernel⟩
theorem sc__law_blend : FnScope ["_law_draw", "_law_found", "_law_prime", "_law_blend_here", "_law_cell"] ["_law_draw"] (defScope (top 18)) := ⟨rfl, rfl, rfl, by decide +kernel, rfl, by decide +kernel, by decide +kernel⟩
theorem sc__law_caught : FnScope ["_law_work", "_law_caught_here", "_law_error"] ["_law_work"] (defScope (top 24)) := ⟨rfl, rfl, rfl, by decide +kernel, rfl, by decide +kernel, by decide +kernel⟩
theorem sc__law_is_number : FnScope ["_law_item"] ["_law_item"] (defScope (top 25)) := ⟨rfl, rfl, rfl, by decide +kernel, rfl, by decide +kernel, by decide +kernel⟩
theorem sc__law_is_word : FnScope ["_law_item", "_law_sign"] ["_law_item"] (defScope (top 26)) := ⟨rfl, rfl, rfl, by decide +kernel, rfl, by decide +kernel, by decide +kernel⟩
theorem sc_are_names : FnScope ["value", "name", "at"] ["value"] (defScope (top 14)) := ⟨rfl, rfl, rfl, by decide +kernel, rfl, by decide +kernel, by decide +kernel⟩
theorem sc__law_take : FnScope ["_law_draw", "_law_size", "_law_found"] ["_law_draw", "_law_size"] (defScope (top 19)) := ⟨rfl, rfl, rfl, by decide +kernel, rfl, by decide +kernel, by decide +kernel⟩
theorem sc__law_due : FnScope ["_law_parts", "_law_days", "_law_pay", "_law_wants", "_law_want"] ["_law_parts"] (defScope (top 27)) := ⟨rfl, rfl, rfl, by decide +kernel, rfl, by decide +kernel, by decide +kernel⟩
theorem sc_Task___init__ : FnScope ["self", "effort", "worth", "needs"] ["self", "effort", "worth", "needs"] (defScope (inClass (top 15) 0)) := ⟨rfl, rfl, rfl, by decide +kernel, rfl, by decide +kernel, by decide +kernel⟩
theorem sc__law_pick : FnScope ["_law_draw", "_law_some"] ["_law_draw", "_law_some"] (defScope (top 20)) := ⟨rfl, rfl, rfl, by decide +kernel, rfl, by decide +kernel, by decide +kernel⟩
theorem sc__law_shuffled : FnScope ["_law_draw", "_law_some", "_law_left", "_law_found"] ["_law_draw", "_law_some"] (defScope (top 21)) := ⟨rfl, rfl, rfl, by decide +kernel, rfl, by decide +kernel, by decide +kernel⟩
theorem sc__law_drawn_names : FnScope ["_law_draw", "_law_total", "_law_letters", "_law_found", "_law_some", "_law_k", "_law_way", "_law_word", "_law_size", "_law_j", "_law_at", "_law_near", "_law_letter", "_law_single"] ["_law_draw", "_law_total"] (defScope (top 22)) := ⟨rfl, rfl, rfl, by decide +kernel, rfl, by decide +kernel, by decide +kernel⟩
theorem sc__law_numbers : FnScope ["_law_draw", "_law_most", "_law_worthx"] ["_law_draw"] (defScope (top 23)) := ⟨rfl, rfl, rfl, by decide +kernel, rfl, by decide +kernel, by decide +kernel⟩
theorem sc__law_bent : FnScope ["_law_draw", "_law_parts", "_law_at", "_law_found", "_law_wants", "_law_odd", "_law_spare", "_law_k", "_law_more"] ["_law_draw", "_law_parts"] (defScope (top 28)) := ⟨rfl, rfl, rfl, by decide +kernel, rfl, by decide +kernel, by decide +kernel⟩
theorem sc__law_apart_right : FnScope ["_law_draw", "_law_made", "_law_parts", "_law_days", "_law_pay", "_law_wants", "_law_fresh", "_law_one", "_law_others", "_law_near"] ["_law_draw", "_law_made", "_law_parts"] (defScope (top 30)) := ⟨rfl, rfl, rfl, by decide +kernel, rfl, by decide +kernel, by decide +kernel⟩
theorem sc__law_refused : FnScope ["_law_parts", "_law_due_here", "_law_days", "_law_pay", "_law_wants", "_law_works", "_law_work", "_law_error"] ["_law_parts", "_law_due_here"] (defScope (top 29)) := ⟨rfl, rfl, rfl, by decide +kernel, rfl, by decide +kernel, by decide +kernel⟩
theorem sc_law : FnScope ["_law_script", "_law_draw", "_law_turn", "_law_days", "_law_pay", "_law_parts", "_law_lap", "_law_due_here", "_law_handed", "_law_made", "_law_plain", "_law_told", "_law_mixed"] ["_law_script"] (defScope (top 31)) := ⟨rfl, rfl, rfl, by decide +kernel, rfl, by decide +kernel, by decide +kernel⟩
local macro_rules
  | `(tactic| walk_at "one") => `(tactic| simp only [fSeq, WL.opStrI, fRaise0, fRaise1, fDicZip, fBinX, fSwapL, fSetI, WL.opListRg, fNeO, fNeY, fSubY, fIxX, fMethK, fLam, fCaughtV, fCaught, WL.opL0, WL.opIsEs, WL.valsVD, WL.opRevL, WL.opRevT, fRng3, WL.int3, fGetO, fDAug, fPopO, WL.itTup, fFrz, WL.frzE, fOwnM, fCallM, WL.setM, WL.lentD, endsM, WL.startM, WL.ownS, fUnpS, fRetM, WL.sepK, WL.sepD, WL.sepDs, WL.sepDp, WL.ownLs, WL.ownDs, List.zipIdx_cons, List.zipIdx_nil, List.contains_cons, List.contains_nil, List.any_cons, List.any_nil, Nat.reduceEqDiff, fCallB, fOwnL, WL.ownL, WL.gAppend, WL.ownD, WL.Own.d, fParK, fUnpO, WL.ownOf, WL.slotK, WL.itAll, WL.tupleA, WL.listA, WL.dictA, fStar, fAug, fDc, fDc2, fDcG, fDcG2, fLc2, fZip, WL.sumVD, WL.itemsD, WL.srtI, WL.srtT, fBinO, fPar3F, fPar3K, fAll, fInO, fLenO, fIxO, fDM, fClear, fErr0, fErr1, fSetF, WL.fldD, startI, endsI, WL.opIsC, fProp, fMeth, fMeth0, fNever, fNo, fEnum, WL.enOf, WL.opIsE, WL.opIsV, WL.opIsB, WL.opNotB, WL.opXf, fSet, fSetO, fRet, fIfS, fT, fOp, fUn, fVar, fOwn, fC, fCons, fNil, fTup, fLst, fCB, fNot, fAnd, fOr, fAndV, fOrV, fNotV, fIf, fChain, fPar, fPar3, fUnp, fDrop, fStill, fNext, fFor, fForO, fForN, fRng1, fRng2, fLc, fYes, fCall, fCallK, fDisp, fDisp1, fPCons, fPNil, fSl, fNoO, fSomeO, fJoin, fDPut, fBrk, fCnt, fRetN, hName, hTup, hCons, hNil,
    wipeD, WL.isIn, startD, endsD, WL.isB, WL.intOf, WL.strOf, WL.seqOf, int1, int2, lstOf, tupOf, tupOf', WL.itOf, WL.ownOf, WL.opAdd, opCat, WL.opI, WL.opI0, WL.opSub, WL.opMul, WL.opMulV, WL.opDiv, WL.opMod, WL.opPow, WL.opLt, WL.opLe, WL.opGt, WL.opGe, WL.opEq, WL.opNe, WL.opIx, WL.opIsN, WL.opNotN, WL.isN, WL.opIn, opIsi, opIsi2, opRepr, opSl, opSlL, opJoin, uInt, WL.lenD, WL.allD, WL.anyD, WL.sumD, WL.intD, WL.listD, WL.tupleD, c2Int, tyN, isiT, WL.plain, WL.plains, WL.deep, WL.deeps, defO, XO.none, rkK,
    List.map_cons, List.map_nil, List.length_cons, List.length_nil, List.replicate, startJ, startK, fCntL, fIdxL, gIdx, fJob, Nat.reduceSub, List.getElem?_cons_zero, List.getElem?_cons_succ, List.set_cons_zero, List.set_cons_succ, List.cons_append, List.nil_append, List.append_nil, Option.some.injEq, WL.Slot.imm.injEq, WL.Slot.own.injEq, WL.Own.lst.injEq, WL.Own.dct.injEq, WL.D.int.injEq, exists_eq_left', exists_eq_left, reduceCtorEq, true_and, and_true, false_and, and_false, if_true, if_false, Bool.true_eq_false, Bool.false_eq_true, not_true, not_false_eq_true, sizeLine_eq, Nat.reduceAdd, Nat.reduceLeDiff, Nat.zero_add, Nat.le_refl, Int.reduceToNat, Int.reducePow, WL.plain, WL.deep, pyEq_ii, atI_0, atI_1, beq_self_eq_true, String.reduceBEq, Bool.true_or, Bool.or_true, Bool.false_or, Bool.or_false, Bool.true_and, Bool.and_true, Bool.false_and, Bool.and_false, Bool.not_true, Bool.not_false, decide_true, decide_false, Int.reduceEq, Int.reduceLT, Int.reduceLE, Int.cast_ofNat_Int, Own.con, Nat.reduceBEq])
local macro_rules
  | `(tactic| walk_at "row") => `(tactic| simp only [WL.opStrI, fRaise0, fRaise1, fDicZip, fBinX, fSwapL, fSetI, WL.opListRg, fNeO, fNeY, fSubY, fIxX, fMethK, fLam, fCaughtV, fCaught, WL.opL0, WL.opIsEs, WL.valsVD, WL.opRevL, WL.opRevT, fRng3, WL.int3, fGetO, fDAug, fPopO, WL.itTup, fFrz, WL.frzE, fOwnM, fCallM, WL.setM, WL.lentD, endsM, WL.startM, WL.ownS, fUnpS, fRetM, WL.sepK, WL.sepD, WL.sepDs, WL.sepDp, WL.ownLs, WL.ownDs, List.zipIdx_cons, List.zipIdx_nil, List.contains_cons, List.contains_nil, List.any_cons, List.any_nil, Nat.reduceEqDiff, fCallB, fOwnL, WL.ownL, WL.gAppend, WL.ownD, WL.Own.d, fParK, fUnpO, WL.ownOf, WL.slotK, WL.itAll, WL.tupleA, WL.listA, WL.dictA, fStar, fAug, fDc, fDc2, fDcG, fDcG2, fLc2, fZip, WL.sumVD, WL.itemsD, WL.srtI, WL.srtT, fBinO, fPar3F, fPar3K, fAll, fInO, fLenO, fIxO, fDM, fClear, fErr0, fErr1, fSetF, WL.fldD, startI, endsI, WL.opIsC, fProp, fMeth, fMeth0, fNever, fNo, fEnum, WL.enOf, WL.opIsE, WL.opIsV, WL.opIsB, WL.opNotB, WL.opXf, fSet, fSetO, fRet, fIfS, fT, fOp, fUn, fVar, fOwn, fC, fCons, fNil, fTup, fLst, fCB, fNot, fAnd, fOr, fAndV, fOrV, fNotV, fIf, fChain, fPar, fPar3, fUnp, fDrop, fStill, fNext, fFor, fForO, fForN, fRng1, fRng2, fLc, fYes, fCall, fCallK, fDisp, fDisp1, fPCons, fPNil, fSl, fNoO, fSomeO, fJoin, fDPut, fBrk, fCnt, fRetN, hName, hTup, hCons, hNil,
    wipeD, WL.isIn, startD, endsD, WL.isB, WL.intOf, WL.strOf, WL.seqOf, int1, int2, lstOf, tupOf, tupOf', WL.itOf, WL.ownOf, WL.opAdd, opCat, WL.opI, WL.opI0, WL.opSub, WL.opMul, WL.opMulV, WL.opDiv, WL.opMod, WL.opPow, WL.opLt, WL.opLe, WL.opGt, WL.opGe, WL.opEq, WL.opNe, WL.opIx, WL.opIsN, WL.opNotN, WL.isN, WL.opIn, opIsi, opIsi2, opRepr, opSl, opSlL, opJoin, uInt, WL.lenD, WL.allD, WL.anyD, WL.sumD, WL.intD, WL.listD, WL.tupleD, c2Int, tyN, isiT, WL.plain, WL.plains, WL.deep, WL.deeps, defO, XO.none, rkK,
    List.map_cons, List.map_nil, List.length_cons, List.length_nil, List.replicate, startJ, startK, fCntL, fIdxL, gIdx, fJob, Nat.reduceSub, List.getElem?_cons_zero, List.getElem?_cons_succ, List.set_cons_zero, List.set_cons_succ, List.cons_append, List.nil_append, List.append_nil, Option.some.injEq, WL.Slot.imm.injEq, WL.Slot.own.injEq, WL.Own.lst.injEq, WL.Own.dct.injEq, WL.D.int.injEq, exists_eq_left', exists_eq_left, reduceCtorEq, true_and, and_true, false_and, and_false, if_true, if_false, Bool.true_eq_false, Bool.false_eq_true, not_true, not_false_eq_true, sizeLine_eq, Nat.reduceAdd, Nat.reduceLeDiff, Nat.zero_add, Nat.le_refl, Int.reduceToNat, Int.reducePow, WL.plain, WL.deep, pyEq_ii, atI_0, atI_1, beq_self_eq_true, String.reduceBEq, Bool.true_or, Bool.or_true, Bool.false_or, Bool.or_false, Bool.true_and, Bool.and_true, Bool.false_and, Bool.and_false, Bool.not_true, Bool.not_false, decide_true, decide_false, Int.reduceEq, Int.reduceLT, Int.reduceLE, Int.cast_ofNat_Int, Own.con, Nat.reduceBEq])
section
variable {P : Program} {w : World} {K : PySem.W.Frag} {mg : Str → Option Value} {base : Heap} {G : Glob} {f : Addr} {fd : FuncData}
theorem ok_is_name (Y : BY mg)  (F : FnP K "is_name" 11 f fd) : FnG P w K mg base 1 f fd ["value"] (spD G K false 1 m_is_name) := by
  refine fn_D (k := 0) (ps := ["value"]) F sc_is_name fun cdv A outer s H E t0 ds hr gd hp hl tk => ⟨_, _, (b_cons (s_if (t_w (w_or (t_not (t_val (e_isi (T := "str") (by decide +kernel) (e_var 0) Y.b_isinstance Y.b_str (by rfl)))) (w_or1 (t_not (t_chain op_le op_le s_le s_le e_int (e_len (e_var 0) Y.b_len) (e_glob rfl Y.c_LONGEST_NAME fun _ => .int _)))))) (b_one (s_ret e_bl)) b_nil)
    (b_one (s_ret (e_all rfl (e_lc (own := [("letter", 1)]) rfl sc_is_name.nd (i_all (e_var 0)) (BlkOk.mk (N := ["value", "letter"]) (sc := defScope (top 11)) rfl (by decide +kernel) (by decide +kernel) (by decide +kernel) (by decide +kernel)) (fun _ _ _ _ _ => (g_name 1 sc_is_name.nd)) (fun _ _ _ _ _ => ts_nil) (fun _ _ _ _ _ => (e_cmp (op_inA (u1 hr)) s_in (e_var 1) (e_glob rfl Y.c_LETTERS fun _ => .str _)))) Y.b_all)))), by decide, ?_⟩
  obtain ⟨v, rfl, hv, hz, _⟩ := hp
  cases v with
  | str z =>
    have hl := hz z rfl
    walk_at "one"
    refine ⟨sz _ hl, ?_⟩
    have fin : ∀ b, b = isNameD (.str z) → m_is_name.post [.str z] (.bl b) := fun b e => ⟨_, rfl, by rw [e]⟩
    by_cases h1 : 1 ≤ z.length
    · rw [if_pos (decide_eq_true (by omega))]
      by_cases h2 : z.length ≤ 8
      · rw [if_neg (by simp; omega)]
        refine ⟨noOwn_nil (by simp), by rw [strD_len]; exact sz _ hl, ?_⟩
        refine lcL_rel (fun x o => ∃ c, x = .str ⟨#[c]⟩ ∧ o = some (.bl (subS ⟨#[c]⟩ abc))) _ _ (fun x hx Kp hk => ?_) fun ys ho => ?_
        · simp only [strD, List.mem_map] at hx
          obtain ⟨c, _, rfl⟩ := hx
          walk_at "one"
          exact hk _ ⟨c, rfl, rfl⟩
        · have e : ys = (z.cps.toList.map fun c => D.bl (subS ⟨#[c]⟩ abc)) := by
            have := Outs.map (f := fun x => match x with | .str y => D.bl (subS y abc) | _ => .non) (fun x o ⟨c, e1, e2⟩ => by rw [e1, e2]) ho
            rw [this, strD, List.map_map]; rfl
          rw [List.nil_append, e]
          have e2 : boolsL (z.cps.toList.map fun c => D.bl (subS ⟨#[c]⟩ abc)) = some (z.cps.toList.map fun c => subS ⟨#[c]⟩ abc) := by
            generalize z.cps.toList = l
            induction l with
            | nil => rfl
            | cons c l ih => simp [boolsL, ih]
          rw [e2]
          refine fin _ ?_
          show _ = (decide (1 ≤ z.length) && (decide (z.length ≤ 8) && z.cps.toList.all fun c => subS ⟨#[c]⟩ abc))
          rw [decide_eq_true h1, decide_eq_true h2]
          simp [List.all_map]
      · rw [if_pos (by simp; omega)]
        refine fin _ ?_
        show _ = (decide (1 ≤ z.length) && (decide (z.length ≤ 8) && z.cps.toList.all fun c => subS ⟨#[c]⟩ abc))
        rw [decide_eq_false h2]; simp
    · rw [if_neg (by simp; omega)]
      refine fin _ ?_
      show _ = (decide (1 ≤ z.length) && (decide (z.length ≤ 8) && z.cps.toList.all fun c => subS ⟨#[c]⟩ abc))
      rw [decide_eq_false h1]; simp
  | _ => first | (simp [tyN] at hv; done) | (walk_at "one"; exact ⟨_, rfl, rfl⟩)
theorem ok_is_number (Y : BY mg)  (F : FnP K "is_number" 12 f fd) : FnG P w K mg base 1 f fd ["value"] (spD G K false 1 m_is_number) := by
  refine fn_D (k := 0) (ps := ["value"]) F sc_is_number fun cdv A outer s H E t0 ds hr gd hp hl tk => ⟨_, _, (b_one (s_ret (e_and (e_isi (T := "int") (by decide +kernel) (e_var 0) Y.b_isinstance Y.b_int (by rfl)) (e_one (e_not (e_isi (T := "bool") (by decide +kernel) (e_var 0) Y.b_isinstance Y.b_bool (by rfl))))))), by decide, ?_⟩
  obtain ⟨v, rfl, hv⟩ := hp
  cases v <;> first | (simp [tyN] at hv; done) | (walk_at "one"; exact ⟨_, rfl, rfl⟩)
theorem ok_is_list (Y : BY mg)  (F : FnP K "is_list" 13 f fd) : FnG P w K mg base 1 f fd ["value"] (spD G K false 1 m_is_list) := by
  refine fn_D (k := 0) (ps := ["value"]) F sc_is_list fun cdv A outer s H E t0 ds hr gd hp hl tk => ⟨_, _, (b_one (s_ret (e_isi2 (T := "list") (U := "tuple") (by decide +kernel) (by decide +kernel) (e_var 0) Y.b_isinstance Y.b_list (by rfl) Y.b_tuple (by rfl)))), by decide, ?_⟩
  obtain ⟨v, rfl, hv⟩ := hp
  cases v <;> first | (walk_at "one"; exact ⟨_, rfl, rfl⟩) | (simp [tyY, tyN] at hv; done)
theorem ok_Task_effort (Y : BY mg) (A_own_effort : AtOk G K "own_effort" at_own_effort) (F : FnQ K "effort" "Task.effort" (inClass (top 15) 1) f fd) : FnG P w K mg base 1 f fd ["self"] (spD G K false 1 m_Task_effort) := by
  refine fn_D (k := 0) (ps := ["self"]) F sc_Task_effort fun cdv A outer s H E t0 ds hr gd hp hl tk => ⟨_, _, (b_one (s_ret (e_fld at_own_effort (e_var 0) A_own_effort))), by decide, ?_⟩
  obtain ⟨t, rfl⟩ := hp
  simp only [tI]
  walk_at "one"
  exact ⟨t, rfl, rfl⟩
theorem ok_Task_worth (Y : BY mg) (A_own_worth : AtOk G K "own_worth" at_own_worth) (F : FnQ K "worth" "Task.worth" (inClass (top 15) 2) f fd) : FnG P w K mg base 1 f fd ["self"] (spD G K false 1 m_Task_worth) := by
  refine fn_D (k := 0) (ps := ["self"]) F sc_Task_worth fun cdv A outer s H E t0 ds hr gd hp hl tk => ⟨_, _, (b_one (s_ret (e_fld at_own_worth (e_var 0) A_own_worth))), by decide, ?_⟩
  obtain ⟨t, rfl⟩ := hp
  simp only [tI]
  walk_at "one"
  exact ⟨t, rfl, rfl⟩
theorem ok_Task_needs (Y : BY mg) (A_own_needs : AtOk G K "own_needs" at_own_needs) (F : FnQ K "needs" "Task.needs" (inClass (top 15) 3) f fd) : FnG P w K mg base 1 f fd ["self"] (spD G K false 1 m_Task_needs) := by
  refine fn_D (k := 0) (ps := ["self"]) F sc_Task_needs fun cdv A outer s H E t0 ds hr gd hp hl tk => ⟨_, _, (b_one (s_ret (e_fld at_own_needs (e_var 0) A_own_needs))), by decide, ?_⟩
  obtain ⟨t, rfl⟩ := hp
  simp only [tI]
  walk_at "one"
  exact ⟨t, rfl, rfl⟩
theorem ok_Task___eq__ (Y : BY mg) (ClT : ClTb G K mg clsNs allFs) (A_own_effort : AtOk G K "own_effort" at_own_effort) (A_own_worth : AtOk G K "own_worth" at_own_worth) (A_own_needs : AtOk G K "own_needs" at_own_needs) (F : FnQ K "__eq__" "Task.__eq__" (inClass (top 15) 4) f fd) : FnG P w K mg base 1 f fd ["self", "other"] (spD G K false 2 m_Task___eq__) := by
  refine fn_D (k := 0) (ps := ["self", "other"]) F sc_Task___eq__ fun cdv A outer s H E t0 ds hr gd hp hl tk => ⟨_, _, (b_cons (s_if (t_w (w_or (t_not (t_val (e_isC 0 ClT (e_var 1) Y.b_isinstance))) (w_or1 (t_cmp (op_neD (u64 hr)) s_ne (e_fld at_own_effort (e_var 0) A_own_effort) (e_fld at_own_effort (e_var 1) A_own_effort))))) (b_one (s_ret e_bl)) b_nil)
    (b_one (s_ret (e_and (e_cmp (op_eqD (u64 hr)) s_eq (e_fld at_own_worth (e_var 0) A_own_worth) (e_fld at_own_worth (e_var 1) A_own_worth)) (e_one (e_cmp (op_eqD (u64 hr)) s_eq (e_fld at_own_needs (e_var 0) A_own_needs) (e_fld at_own_needs (e_var 1) A_own_needs))))))), by decide, ?_⟩
  obtain ⟨t, v, rfl, h1, hv | ⟨u, rfl, h2⟩⟩ := hp
  · have fin : m_Task___eq__.post [tI t, v] (.bl false) := ⟨t, v, rfl, .inl ⟨hv, rfl⟩⟩
    cases v
    all_goals first | (simp [tyN] at hv; done) | (walk_at "one"; first | exact fin | exact ⟨rfl, fin⟩)
  have a0 : at_own_effort 0 = some 0 := rfl
  have a1 : at_own_worth 0 = some 1 := rfl
  have a2 : at_own_needs 0 = some 2 := rfl
  have fin : ∀ b, b = tEq t u → m_Task___eq__.post [tI t, tI u] (.bl b) := fun b e => ⟨t, _, rfl, .inr ⟨u, rfl, by rw [e]⟩⟩
  refine seq_gen fun nx hk => ?_
  walk_at "row"
  generalize m_Task___eq__.post [tI t, tI u] = P at *
  simp only [tI, a0, List.getElem?_cons_zero]
  rw [if_neg (by decide)]
  refine ⟨⟨rfl, rfl, by simp [WL.deep], by simp [WL.deep]⟩, ?_⟩
  rw [pyEq_ii]
  by_cases q : t.e = u.e
  · rw [decide_eq_true q, if_neg (by decide)]
    refine hk _ ?_; clear hk; clear nx
    walk_at "row"
    simp only [tI, a1, a2, List.getElem?_cons_zero, List.getElem?_cons_succ]
    refine ⟨⟨rfl, rfl, by simp [WL.deep], by simp [WL.deep]⟩, ?_⟩
    rw [pyEq_ii]
    by_cases q2 : t.w = u.w
    · rw [decide_eq_true q2, if_pos rfl]
      refine ⟨pl_ns h1 h2, ?_⟩
      rw [show pyEq (.tup (t.ns.map D.str)) (.tup (u.ns.map D.str)) = decide (t.ns = u.ns) from pyEq_ns _ _]
      exact fin _ (by unfold tEq; rw [decide_eq_true q, decide_eq_true q2]; rfl)
    · rw [decide_eq_false q2, if_neg (by decide)]
      exact fin _ (by unfold tEq; rw [decide_eq_false q2, Bool.and_false, Bool.false_and])
  · rw [decide_eq_false q, if_pos (by decide)]
    exact fin _ (by unfold tEq; rw [decide_eq_false q]; rfl)
theorem ok__law_begun {T : List (Addr × Str)} (Y : BY mg)  (F : FnP K "_law_begun" 17 f fd) : FnG P w K mg base 1 f fd ["_law_script"] (spD (G0 T) K true 1 mBegun) := by
  refine fn_D (k := 0) (ps := ["_law_script"]) F sc__law_begun fun cdv A outer s H E t0 ds hr gd hp hl tk => ⟨_, _, (b_cons (s_setOLc (own := [("_law_cell", 2)]) 1 rfl sc__law_begun.nd (i_all (e_var 0)) (BlkOk.mk (N := ["_law_script", "_law_wide", "_law_cell"]) (sc := defScope (top 17)) rfl (by decide +kernel) (by decide +kernel) (by decide +kernel) (by decide +kernel)) (fun _ _ _ _ _ => (g_name 2 sc__law_begun.nd)) (fun _ _ _ _ _ => (ts_one (t_cmp op_ge s_ge (e_var 2) (e_op op_powW s_pow e_int e_int)))) (fun _ _ _ _ _ => (e_op op_sub s_sub (e_var 2) (e_op op_powW s_pow e_int e_int))))
    (b_still 1 (b_one (s_retF (e_disp (p_cons e_str (e_var 1) (p_cons e_str (e_fz (e_lstA rfl (e_var 0) Y.b_list)) (p_cons e_str e_int (p_cons e_str e_int p_nil))))))))), by decide, ?_⟩
  obtain ⟨ns, rfl, hn⟩ := hp
  walk_at "one"
  refine ⟨noOwn_nil (by simp), by rw [List.length_map]; exact sz _ (by omega), lcL_rel (fun x o => ∀ y, o = some y → ∃ i : Int, y = D.int i) _ _ (fun x hx Kp hk => ?_) fun ys ho => ?_⟩
  · obtain ⟨c, _, rfl⟩ := List.mem_map.mp hx
    walk_at "one"
    have h10 : CPowW 10 18 := ⟨by decide, by decide, by decide⟩
    refine ⟨h10, ?_⟩
    split
    · exact ⟨h10, hk _ fun y e => ⟨_, (Option.some.inj e).symm⟩⟩
    · exact hk _ fun y e => nomatch e
  · obtain ⟨ws, rfl⟩ := ints_of fun y hy => Outs.all (Pr := fun y => ∃ i : Int, y = D.int i) (fun x y h => h y rfl) ho y hy
    have hl := ho.len
    rw [List.length_map, List.length_map] at hl
    exact ⟨rfl, ws, ns, rfl, by omega⟩

theorem ok__law_blend {T : List (Addr × Str)} (Y : BY mg) (F : FnP K "_law_blend" 18 f fd) : FnG P w K mg base 1 f fd ["_law_draw"] (spBlend T) := by
  refine blend_of rfl fun a b c ws cs r => fn_D (k := 0) (ps := ["_law_draw"]) F sc__law_blend fun cdv A outer s H E t0 ds hr gd hp hl tk => ⟨_, _, (b_cons (gb_tick 0 (u1 hr) (fun _ z => z))
    (b_cons (s_set 1 e_int sc__law_blend.nd)
    (b_cons (s_forZ (passes_of rfl) rfl (i_all (e_fz (e_lst (a_cons e_int (a_cons e_int (a_cons e_int (a_cons e_int (a_cons e_int (a_cons e_int a_nil))))))))) (g_name 2 sc__law_blend.nd) (b_cons (s_set 3 (e_op op_addA s_addA (e_op op_mul s_mul e_int (gb_turn 0 (u1 hr))) (e_op op_fdivW s_div (e_var 2) e_int)) sc__law_blend.nd)
    (b_cons (s_forZ (passes_of rfl) rfl (gb_cells 0 (u1 hr)) (g_name 4 sc__law_blend.nd) (b_one (s_set 3 (e_op op_mod s_mod (e_intc (e_op op_addA s_addA (e_op op_mul s_mul (e_var 3) e_int) (e_var 4)) Y.b_int) (e_var 2)) sc__law_blend.nd)))
    (b_one (s_set 1 (e_op op_addA s_addA (e_op op_mul s_mul (e_var 1) e_int) (e_op op_mod s_mod (e_intc (e_op op_powW s_pow (e_var 3) e_int) Y.b_int) (e_var 2))) sc__law_blend.nd)))))
    (b_one (s_ret (e_var 1)))))), by decide, ?_⟩
  obtain rfl := hp
  walk_at "one"
  refine ⟨rfl, ?_⟩
  walk_at "one"
  refine forL_inv (fun ρ => ∃ (i : Int) (p q r : Option WL.Slot), ρ = [some (.imm (.tok 0)), some (.imm (.int i)), p, q, r]) (fun ρ ⟨i, p, q, r, e⟩ => ?_) _ _ ⟨_, _, _, _, rfl⟩ fun x hx ρ nx ⟨i, p, q, r, e⟩ hk => ?_
  · subst e
    walk_at "one"
    exact ⟨_, rfl⟩
  · subst e
    obtain ⟨pr, rfl, h0, h1⟩ : ∃ pr : Int, x = .int pr ∧ 0 < pr ∧ pr < 2 ^ 31 := by
      simp only [List.mem_cons, List.not_mem_nil, or_false] at hx
      rcases hx with e | e | e | e | e | e <;> subst e <;> exact ⟨_, rfl, by decide, by decide⟩
    walk_at "one"
    refine ⟨rfl, fun j hj => ?_⟩
    walk_at "one"
    have small : ∀ z : Int, 0 ≤ z → z < pr → z.natAbs.log2 < 100000 := fun z z0 z1 => Nat.lt_of_lt_of_le (log2_lt (k := 31) (by omega) (by decide)) (by decide)
    have first : (91283 * j + pr / 19).natAbs.log2 < 100000 := by
      have hd : 0 ≤ pr / 19 ∧ pr / 19 ≤ pr := ⟨Int.ediv_nonneg (by omega) (by decide), Int.ediv_le_self _ (by omega)⟩
      have one : 1 ≤ limT := Nat.le_trans (by decide) limT_big
      have le : (91283 * j + pr / 19).natAbs ≤ limT * 4294967296 := by omega
      exact Nat.lt_of_lt_of_le (log2_lt (k := 9033) (Nat.lt_of_le_of_lt le limT_32) (by decide)) (by decide)
    refine ⟨.inl ⟨by decide, by decide⟩, ⟨by decide, by decide⟩, rfl, forL_inv (fun ρ => ∃ (bh : Int) (u : Option WL.Slot), bh.natAbs.log2 < 100000 ∧ ρ = [some (.imm (.tok 0)), some (.imm (.int i)), some (.imm (.int pr)), some (.imm (.int bh)), u]) (fun ρ ⟨bh, u, hb, e⟩ => ?_) _ _ ⟨_, _, first, rfl⟩ fun x hx ρ nx2 ⟨bh, u, hb, e⟩ hk2 => ?_⟩
    · subst e
      walk_at "one"
      exact ⟨.inr ⟨by decide, by decide⟩, ⟨by decide, by decide, hb⟩, h0, hk _ ⟨_, _, _, _, rfl⟩⟩
    · subst e
      obtain ⟨c, _, rfl⟩ := List.mem_map.mp hx
      walk_at "one"
      exact ⟨.inr ⟨by decide, by decide⟩, h0, hk2 _ ⟨_, _, small _ (Int.emod_nonneg _ (by omega)) (Int.emod_lt_of_pos _ h0), rfl⟩⟩

theorem ok__law_is_number (Y : BY mg)  (F : FnP K "_law_is_number" 25 f fd) : FnG P w K mg base 1 f fd ["_law_item"] (spD G K false 1 m__law_is_number) := by
  refine fn_D (k := 0) (ps := ["_law_item"]) F sc__law_is_number fun cdv A outer s H E t0 ds hr gd hp hl tk => ⟨_, _, (b_one (s_ret (e_and (e_isi (T := "int") (by decide +kernel) (e_var 0) Y.b_isinstance Y.b_int (by rfl)) (e_one (e_not (e_isi (T := "bool") (by decide +kernel) (e_var 0) Y.b_isinstance Y.b_bool (by rfl))))))), by decide, ?_⟩
  obtain ⟨v, rfl, hv⟩ := hp
  cases v <;> first | (simp [tyN] at hv; done) | (walk_at "one"; exact ⟨_, rfl, rfl⟩)
theorem ok__law_is_word (Y : BY mg)  (F : FnP K "_law_is_word" 26 f fd) : FnG P w K mg base 1 f fd ["_law_item"] (spD G K false 1 m__law_is_word) := by
  refine fn_D (k := 0) (ps := ["_law_item"]) F sc__law_is_word fun cdv A outer s H E t0 ds hr gd hp hl tk => ⟨_, _, (b_cons (s_if (t_w (w_or (t_not (t_val (e_isi (T := "str") (by decide +kernel) (e_var 0) Y.b_isinstance Y.b_str (by rfl)))) (w_or1 (t_not (t_chain op_lt op_lt s_lt s_lt e_int (e_len (e_var 0) Y.b_len) e_int))))) (b_one (s_ret e_bl)) b_nil)
    (b_one (s_ret (e_cmp (op_eqD (u64 hr)) s_eq (e_fz (e_lc (own := [("_law_sign", 1)]) rfl sc__law_is_word.nd (i_all (e_var 0)) (BlkOk.mk (N := ["_law_item", "_law_sign"]) (sc := defScope (top 26)) rfl (by decide +kernel) (by decide +kernel) (by decide +kernel) (by decide +kernel)) (fun _ _ _ _ _ => (g_name 1 sc__law_is_word.nd)) (fun _ _ _ _ _ => (ts_one (t_cmp (op_notInA (u1 hr)) s_in (e_var 1) e_str))) (fun _ _ _ _ _ => (e_var 1)))) (e_lst a_nil))))), by decide, ?_⟩
  obtain ⟨v, rfl, ⟨hv, hz, _⟩, hs⟩ := hp
  cases v with
  | str z =>
    have hl := hz z rfl
    have hs := hs z rfl
    have fin : ∀ b, b = isNameD (.str z) → m__law_is_word.post [.str z] (.bl b) := fun b e => ⟨_, rfl, by rw [e]⟩
    walk_at "one"
    refine ⟨sz _ hl, ?_⟩
    have e0 : isNameD (.str z) = (decide (1 ≤ z.length) && (decide (z.length ≤ 8) && z.cps.toList.all fun c => subS ⟨#[c]⟩ abc)) := rfl
    by_cases h1 : 1 ≤ z.length
    · rw [if_pos (by simp; omega)]
      by_cases h2 : z.length ≤ 8
      · rw [if_neg (by simp; omega)]
        refine ⟨noOwn_nil (by simp), by rw [strD_len]; exact sz _ hl, ?_⟩
        refine lcL_fun gNs _ (fun x hx Kp hk => ?_) ?_
        · simp only [strD, List.mem_map] at hx
          obtain ⟨c, _, rfl⟩ := hx
          walk_at "one"
          by_cases q : subS ⟨#[c]⟩ abc = true
          · rw [show gNs (.str ⟨#[c]⟩) = none from if_pos q] at hk
            rw [show subS ⟨#[c]⟩ "abcdefghijklmnopqrstuvwxyz" = true from q]; exact hk
          · rw [show gNs (.str ⟨#[c]⟩) = some (.str ⟨#[c]⟩) from if_neg q] at hk
            rw [show subS ⟨#[c]⟩ "abcdefghijklmnopqrstuvwxyz" = false from by simpa using q]; exact hk
        · obtain ⟨p1, p2⟩ := gNs_pl z.cps.toList hs
          refine ⟨⟨p1, by show WL.deeps ((z.cps.toList.map fun c => D.str ⟨#[c]⟩).filterMap gNs) ≤ 63; omega⟩, fin _ ?_⟩
          rw [pyEq_l0, e0, decide_eq_true h1, decide_eq_true h2]
          exact gNs_empty z.cps.toList
      · rw [if_pos (by simp; omega)]
        refine fin _ ?_
        rw [e0, decide_eq_false h2]; simp
    · rw [if_neg (by simp; omega)]
      refine fin _ ?_
      rw [e0, decide_eq_false h1]; simp
  | _ => first | (simp [tyN] at hv; done) | (walk_at "one"; exact ⟨_, rfl, rfl⟩)
theorem ok_are_names (Y : BY mg) (F_is_list : Fn G P w K mg base "is_list" 1 false m_is_list []) (F_is_name : Fn G P w K mg base "is_name" 1 false m_is_name []) (F : FnP K "are_names" 14 f fd) : FnG P w K mg base 2 f fd ["value"] (spD G K false 1 m_are_names) := by
  refine fn_D (k := 1) (ps := ["value"]) F sc_are_names fun cdv A outer s H E t0 ds hr gd hp hl tk => ⟨_, _, (b_cons (s_if (t_w (w_or (t_not (t_val (e_call (rk := false) F_is_list hr gd (by decide) (lets0 fun _ z => z) (a_cons (e_var 0) a_nil)))) (w_or1 (t_not (t_val (e_all rfl (e_lc (own := [("name", 1)]) rfl sc_are_names.nd (i_all (e_var 0)) (BlkOk.mk (N := ["value", "name", "at"]) (sc := defScope (top 14)) rfl (by decide +kernel) (by decide +kernel) (by decide +kernel) (by decide +kernel)) (fun _ _ _ _ _ => (g_name 1 sc_are_names.nd)) (fun _ _ _ _ _ => ts_nil) (fun _ _ _ _ _ => (e_call (rk := false) F_is_name hr gd (by decide) (lets0 fun _ z => z) (a_cons (e_var 1) a_nil)))) Y.b_all)))))) (b_one (s_ret e_bl)) b_nil)
    (b_one (s_ret (e_all rfl (e_lc (own := [("at", 2), ("name", 1)]) rfl sc_are_names.nd (i_enum (e_var 0) Y.b_enumerate) (BlkOk.mk (N := ["value", "name", "at"]) (sc := defScope (top 14)) rfl (by decide +kernel) (by decide +kernel) (by decide +kernel) (by decide +kernel)) (fun _ _ _ _ _ => (g_tup (n := 2) rfl (gs_cons (g_name 2 sc_are_names.nd) (gs_cons (g_name 1 sc_are_names.nd) gs_nil)))) (fun _ _ _ _ _ => ts_nil) (fun _ _ _ _ _ => (e_cmp (op_notInA (u1 hr)) s_in (e_var 1) (e_sl (e_var 0) o_none (o_some (e_var 2)))))) Y.b_all)))), by decide, ?_⟩
  obtain ⟨v, rfl, hv⟩ := hp
  have fin : ∀ b : Bool, (b = true ↔ NamesV v) → m_are_names.post [v] (.bl b) := fun b h => ⟨v, rfl, by
    cases b
    · exact .inr ⟨rfl, fun q => by have := h.mpr q; cases this⟩
    · exact .inl ⟨rfl, h.mp rfl⟩⟩
  walk_at "one"
  refine ⟨rfl, ⟨v, rfl, hv.ty⟩, fun d hd => ?_, fun _ z => z.elim⟩
  obtain ⟨v', e, rfl⟩ := hd
  simp only [List.cons.injEq, and_true] at e
  subst e
  have key : (∃ xs, v = .tup xs ∨ v = .lst xs) ∨ v = .wtp [] ∨ ((fun v : D => (match v with | .lst _ => true | .tup _ => true | .wtp _ => true | _ => false : Bool)) v = false ∧ ¬ NamesV v) := by
    cases v with
    | tup xs => exact .inl ⟨xs, .inl rfl⟩
    | lst xs => exact .inl ⟨xs, .inr rfl⟩
    | wtp xs => cases xs with
      | nil => exact .inr (.inl rfl)
      | cons x xs =>
        have := hv.ty
        simp [tyY, tyN] at this
    | _ => exact .inr (.inr ⟨rfl, fun ⟨ns, h, _⟩ => by rcases h with h | h | ⟨h, _⟩ <;> cases h⟩)
  rcases key with ⟨xs, hvx⟩ | rfl | ⟨e, hn⟩
  case inr.inr =>
    dsimp only at e
    rw [e]
    dsimp only
    rw [if_pos (by decide)]
    exact fin false ⟨fun q => (by cases q), fun q => absurd q hn⟩
  case inr.inl =>
    dsimp only
    rw [if_neg (by decide)]
    refine ⟨noOwn_nil (by simp), by decide, noOwn_2 (by simp) (by simp), by decide, ?_⟩
    exact fin true ⟨fun _ => ⟨[], .inr (.inr ⟨rfl, rfl⟩), (fun _ h => nomatch h), .nil⟩, fun _ => rfl⟩
  obtain ⟨hl, hall⟩ := hv.it xs (by rcases hvx with e | e <;> rw [e] <;> rfl)
  have hns : ∀ ns : List Str, xs = ns.map D.str → (NamesV v ↔ (∀ n ∈ ns, nameOk n = true) ∧ ns.Nodup) := by
    intro ns e
    subst e
    have hs : SqW v ns := by rcases hvx with e | e <;> subst e <;> simp [SqW]
    exact ⟨fun ⟨ms, hm, h⟩ => by rw [hs.inj hm]; exact h, fun h => ⟨ns, hs, h⟩⟩
  have hnot : xs.all isNameD = false → ¬ NamesV v := fun e ⟨ns, hs, hn, _⟩ => by
    have : xs = ns.map D.str := by
      rcases hs with q | q | ⟨q, _⟩ <;> rcases hvx with r | r <;> rw [r] at q <;> first | (cases q; done) | skip
      · exact D.lst.inj q
      · exact D.tup.inj q
    subst this
    have : (ns.map D.str).all isNameD = true := by
      rw [List.all_map]
      exact List.all_eq_true.mpr fun n hn' => hn n hn'
    rw [e] at this; cases this
  rcases hvx with rfl | rfl
  all_goals
    dsimp only
    rw [if_neg (by decide)]
    refine ⟨noOwn_nil (by simp), by omega, ?_⟩
    refine lcL_rel (fun x o => o = some (.bl (isNameD x))) _ _ (fun x hx Kp hk => ?_) fun ys ho => ?_
    · walk_at "one"
      refine ⟨rfl, ⟨_, rfl, (hall x hx).1⟩, fun d hd => ?_, fun _ z => z.elim⟩
      obtain ⟨v, e, rfl⟩ := hd
      simp only [List.cons.injEq, and_true] at e
      subst e
      exact hk _ rfl
    obtain rfl := ho.map (f := fun x => .bl (isNameD x)) fun _ _ z => z
    rw [List.nil_append, boolsL_all (f := isNameD)]
    dsimp only
    cases hb : xs.all isNameD with
    | false =>
      rw [if_pos (by simpa [List.all_map] using hb)]
      exact fin false ⟨fun q => (by cases q), fun q => absurd q (hnot hb)⟩
    | true =>
      rw [if_neg (by simpa [List.all_map] using hb)]
      obtain ⟨ns, rfl, hn⟩ := names_all hb
      refine ⟨noOwn_2 (by simp) (by simp), by rw [enumD_len]; omega, ?_⟩
      refine lcL_rel (fun x o => ∃ (i : Nat) (n : Str), ns[i]? = some n ∧ x = .tup [.int i, .str n] ∧ o = some (.bl (decide (n ∉ ns.take i)))) _ _ (fun x hx Kp hk => ?_) fun ys ho => ?_
      · obtain ⟨i, hi⟩ := List.mem_iff_getElem?.mp hx
        rw [enumD_get] at hi
        obtain ⟨y, hy, rfl⟩ := Option.map_eq_some_iff.mp hi
        rw [List.getElem?_map] at hy
        obtain ⟨n, hn', rfl⟩ := Option.map_eq_some_iff.mp hy
        walk_at "one"
        rw [cutL_map, cutL_take]
        refine ⟨⟨rfl, flat_strs _⟩, hk _ ⟨i, n, hn', by rw [Nat.zero_add], ?_⟩⟩
        rw [memF_strs]
        by_cases q : n ∈ ns.take i
        · rw [decide_eq_true q, decide_eq_false (fun h => h q)]; rfl
        · rw [decide_eq_false q, decide_eq_true q]; rfl
      obtain rfl := ho.map (f := fun x => .bl (fNd ns x)) fun x o ⟨i, n, _, e1, e2⟩ => by rw [e1, e2]; rfl
      rw [List.nil_append, boolsL_all (f := fNd ns)]
      refine fin _ ((fNd_all ns).trans ?_)
      rw [hns ns rfl]
      exact ⟨fun q => ⟨hn, q⟩, fun q => q.2⟩
theorem ok__law_take {T : List (Addr × Str)} (Y : BY mg) {fB : Addr} {fdB : FuncData} (hB : FnG P w K mg base 1 fB fdB ["_law_draw"] (spBlend T)) (mB : mg "_law_blend" = some (.ref fB)) (kB : PySem.W.keepIn K (.ref fB) = true) (bB : Binds K fdB ["_law_draw"] []) (F : FnP K "_law_take" 19 f fd) : FnG P w K mg base 2 f fd ["_law_draw", "_law_size"] (spTake T) := by
  refine FunD.okG (k := 1) F sc__law_take (fun vs H Q E ⟨a, b, c, ws, cs, r, t, m, e, _⟩ => by rw [e]; rfl) fun cdv A outer s H vs Q E hr gd h => ⟨tTake T K (fun _ _ _ _ => False), ?_, take_reads (D := { nx := fun _ H' => Q .non H', rt := Q }) h⟩
  have hx : ∀ σ, PassesAt (L2.CX P w) (cxOf (L2.CX P w) P w K mg base ["_law_draw", "_law_size", "_law_found"] "_law_take" (defScope (top 19)) f cdv A outer s H E) σ (fun _ _ _ => False) := fun σ pins H s e s' I c => by
    obtain ⟨_, _, _, _, _, _, _, _, _, _, _, _, z⟩ := c
    exact z.elim
  exact pss_cons (ps_if (pt_cmpR op_eq (pe_ix (ix_dict (u1 hr)) (pe_var (i := 0) rfl (Or.inl rfl)) pe_str (fun _ _ => rfl)) pe_int rfl) (pss_one (ps_dput (u1 hr) (pe_var (i := 0) rfl (Or.inl rfl)) pe_str
      (pe_ifExp (pt_cmpR (op_neD (u64 hr)) (pe_ix (ix_dict (u1 hr)) (pe_var (i := 0) rfl (Or.inl rfl)) pe_str (fun _ _ => rfl)) (pe_lst pa_nil) rfl)
        (pe_bm PySem.F.plainAttrs_list PySem.F.slot_list_pop PySem.F.type_list_pop mt_popAt (pe_ix (ix_dict (u1 hr)) (pe_var (i := 0) rfl (Or.inl rfl)) pe_str (fun _ _ => rfl)) (pa_cons pe_int pa_nil))
        (pe_callG hB hr gd rfl mB kB bB .nil hx (pa_cons (pe_var (i := 0) rfl (Or.inl rfl)) pa_nil) (by decide) rfl rfl)) rfl)) pss_nil)
    (pss_cons (ps_set (i := 2) sc__law_take.nd rfl (Or.inl rfl) (pe_op op_mod (pe_callTy call_int1 rfl Y.b_int (by rfl) (pa_cons (pe_ix (ix_dict (u1 hr)) (pe_var (i := 0) rfl (Or.inl rfl)) pe_str (fun _ _ => rfl)) pa_nil)) (pe_var (i := 1) rfl (Or.inl rfl))))
      (pss_cons (ps_dput (u1 hr) (pe_var (i := 0) rfl (Or.inl rfl)) pe_str (pe_op op_fdivW (pe_ix (ix_dict (u1 hr)) (pe_var (i := 0) rfl (Or.inl rfl)) pe_str (fun _ _ => rfl)) (pe_var (i := 1) rfl (Or.inl rfl))) rfl) (pss_one (ps_ret (pe_var (i := 2) rfl (Or.inl rfl))))))
theorem ok__law_due (Y : BY mg) (F__law_is_number : Fn G P w K mg base "_law_is_number" 1 false m__law_is_number []) (F__law_is_word : Fn G P w K mg base "_law_is_word" 1 false m__law_is_word []) (F : FnP K "_law_due" 27 f fd) : FnG P w K mg base 2 f fd ["_law_parts"] (spD G K false 1 m__law_due) := by
  refine fn_D (k := 1) (ps := ["_law_parts"]) F sc__law_due fun cdv A outer s H E t0 ds hr gd hp hl tk => ⟨_, _, (b_cons (s_unp (g_tup (n := 3) rfl (gs_cons (g_name 1 sc__law_due.nd) (gs_cons (g_name 2 sc__law_due.nd) (gs_cons (g_name 3 sc__law_due.nd) gs_nil)))) (e_var 0))
    (b_cons (s_if (t_w (w_or (t_not (t_val (e_call (rk := false) F__law_is_number hr gd (by decide) (lets0 fun _ z => z) (a_cons (e_var 1) a_nil)))) (w_or1 (t_not (t_chain op_le op_le s_le s_le e_int (e_var 1) e_int))))) (b_one (s_ret e_str)) b_nil)
    (b_cons (s_if (t_w (w_or (t_not (t_val (e_call (rk := false) F__law_is_number hr gd (by decide) (lets0 fun _ z => z) (a_cons (e_var 2) a_nil)))) (w_or1 (t_not (t_chain op_le op_le s_le s_le e_int (e_var 2) e_int))))) (b_one (s_ret e_str)) b_nil)
    (b_cons (s_if (t_w (w_or (t_not (t_val (e_isi2 (T := "list") (U := "tuple") (by decide +kernel) (by decide +kernel) (e_var 3) Y.b_isinstance Y.b_list (by rfl) Y.b_tuple (by rfl)))) (w_or1 (t_cmp op_gt s_gt (e_len (e_var 3) Y.b_len) e_int)))) (b_one (s_ret e_str)) b_nil)
    (b_cons (s_if (t_cmp (op_neL0 (u0 hr)) (s_L0 (neg := true)) (e_fz (e_lc (own := [("_law_want", 4)]) rfl sc__law_due.nd (i_all (e_var 3)) (BlkOk.mk (N := ["_law_parts", "_law_days", "_law_pay", "_law_wants", "_law_want"]) (sc := defScope (top 27)) rfl (by decide +kernel) (by decide +kernel) (by decide +kernel) (by decide +kernel)) (fun _ _ _ _ _ => (g_name 4 sc__law_due.nd)) (fun _ _ _ _ _ => (ts_one (t_not (t_val (e_call (rk := false) F__law_is_word hr gd (by decide) (lets0 fun _ z => z) (a_cons (e_var 4) a_nil)))))) (fun _ _ _ _ _ => (e_var 4)))) (e_fz (e_lst a_nil))) (b_one (s_ret e_str)) b_nil)
    (b_one (s_ret (e_if (t_cmp (op_eqD (u64 hr)) s_eq (e_lenSet rfl (e_var 3) Y.b_len Y.b_set) (e_len (e_var 3) Y.b_len)) e_non e_str)))))))), by decide, ?_⟩
  obtain ⟨a, b, c, rfl, ha, hb, hc⟩ := hp
  have bad : ∀ w, BadP a b c w → m__law_due.post [.tup [a, b, c]] (.str w) := fun w h => ⟨a, b, c, rfl, .inr ⟨w, h, rfl⟩⟩
  have good : GoodP a b c → m__law_due.post [.tup [a, b, c]] .non := fun h => ⟨a, b, c, rfl, .inl ⟨h, rfl⟩⟩
  refine seq_gen fun nx hk => ?_
  walk_at "row"
  refine hk _ ?_; clear hk; clear nx
  refine seq_gen fun nx hk => ?_
  walk_at "row"
  refine ⟨rfl, ⟨_, rfl, ha.ty⟩, fun d hd => ?_, fun _ z => z.elim⟩
  obtain ⟨v', e', rfl⟩ := hd
  simp only [List.cons.injEq, and_true] at e'
  subst e'
  by_cases hE : EffV a
  case neg =>
    have bad1 := bad _ (.inl ⟨rfl, hE⟩)
    have ha := ha.ty
    cases a with
    | int e =>
      dsimp only [isNum]
      rw [if_neg (by decide)]
      by_cases q : 1 ≤ e
      · rw [if_pos (decide_eq_true q), if_pos (by simp; exact Int.not_le.mp fun q2 => hE ⟨e, rfl, q, q2⟩)]
        exact bad1
      · rw [if_neg (by simpa using q)]
        exact bad1
    | _ => first | exact bad1 | (simp [tyN] at ha; done)
  obtain ⟨e, rfl, e1, e2⟩ := hE
  have hE : EffV (.int e) := ⟨e, rfl, e1, e2⟩
  dsimp only [isNum]
  rw [if_neg (by decide), if_pos (decide_eq_true e1), if_neg (by simp [e2])]
  refine hk _ ?_; clear hk; clear nx
  refine seq_gen fun nx hk => ?_
  walk_at "row"
  refine ⟨rfl, ⟨_, rfl, hb.ty⟩, fun d hd => ?_, fun _ z => z.elim⟩
  obtain ⟨v', e', rfl⟩ := hd
  simp only [List.cons.injEq, and_true] at e'
  subst e'
  by_cases hW : WorV b
  case neg =>
    have bad1 := bad _ (.inr (.inl ⟨rfl, hE, hW⟩))
    have hb := hb.ty
    cases b with
    | int w =>
      dsimp only [isNum]
      rw [if_neg (by decide)]
      by_cases q : 0 ≤ w
      · rw [if_pos (decide_eq_true q), if_pos (by simp; exact Int.not_le.mp fun q2 => hW ⟨w, rfl, q, q2⟩)]
        exact bad1
      · rw [if_neg (by simpa using q)]
        exact bad1
    | _ => first | exact bad1 | (simp [tyN] at hb; done)
  obtain ⟨w, rfl, w1, w2⟩ := hW
  have hW : WorV (.int w) := ⟨w, rfl, w1, w2⟩
  dsimp only [isNum]
  rw [if_neg (by decide), if_pos (decide_eq_true w1), if_neg (by simp [w2])]
  refine hk _ ?_; clear hk; clear nx
  refine seq_gen fun nx hk => ?_
  walk_at "row"
  have key : (∃ xs, (c = .tup xs ∨ c = .lst xs)) ∨ ((∃ t, tyW c = some t ∧ (t == "list" || t == "tuple") = false) ∧ ¬ NeeV c) := by
    have hty := hc.ty
    cases c with
    | tup xs => exact .inl ⟨xs, .inl rfl⟩
    | lst xs => exact .inl ⟨xs, .inr rfl⟩
    | _ => first
      | (simp [tyN] at hty; done)
      | exact .inr ⟨⟨_, rfl, rfl⟩, fun ⟨ns, h, _⟩ => by rcases h with h | h | ⟨h, _⟩ <;> cases h⟩
  rcases key with ⟨xs, hvx⟩ | ⟨⟨t, e, e2⟩, hn⟩
  case inr =>
    rw [e]
    dsimp only
    rw [e2, if_pos (by decide)]
    exact bad _ (.inr (.inr ⟨rfl, hE, hW, hn⟩))
  obtain ⟨hl, hall⟩ := hc.it xs (by rcases hvx with e | e <;> rw [e] <;> rfl)
  have hns : ∀ ns : List Str, xs = ns.map D.str → (NeeV c ↔ (∀ n ∈ ns, nameOk n = true) ∧ ns.Nodup ∧ ns.length < 30) := by
    intro ns e
    subst e
    have hs : SqW c ns := by rcases hvx with e | e <;> subst e <;> simp [SqW]
    exact ⟨fun ⟨ms, hm, h⟩ => by rw [hs.inj hm]; exact h, fun h => ⟨ns, hs, h⟩⟩
  have hseq : NeeV c → ∃ ns : List Str, xs = ns.map D.str ∧ (∀ n ∈ ns, nameOk n = true) ∧ ns.Nodup ∧ ns.length < 30 := fun ⟨ns, hs, h⟩ => by
    refine ⟨ns, ?_, h⟩
    rcases hs with q | q | ⟨q, _⟩ <;> rcases hvx with r | r <;> rw [r] at q <;> first | (cases q; done) | skip
    · exact D.lst.inj q
    · exact D.tup.inj q
  have bad3 : ¬ NeeV c → m__law_due.post [.tup [.int e, .int w, c]] (.str "needs") := fun h => bad _ (.inr (.inr ⟨rfl, hE, hW, h⟩))
  rcases hvx with rfl | rfl
  all_goals
    dsimp only [WL.tyW]
    rw [if_neg (by decide)]
    by_cases h29 : 29 < xs.length
    · rw [if_pos (by simp; omega)]
      refine bad3 fun q => ?_
      obtain ⟨ns, rfl, _, _, h⟩ := hseq q
      rw [List.length_map] at h29; omega
    rw [if_neg (by simp; omega)]
    refine hk _ ?_; clear hk; clear nx
    refine seq_gen fun nx hk => ?_
    walk_at "row"
    refine ⟨noOwn_nil (by simp), by omega, ?_⟩
    refine lcL_fun gBadN _ (fun x hx Kp hk => ?_) ?_
    · walk_at "one"
      refine ⟨rfl, ⟨x, rfl, (hall x hx).2, (hall x hx).1.safe⟩, fun d hd => ?_, fun _ z => z.elim⟩
      obtain ⟨v, e, rfl⟩ := hd
      simp only [List.cons.injEq, and_true] at e
      subst e
      by_cases q : isNameD x = true
      · rw [show gBadN x = none from if_pos q] at hk
        rw [q]; exact hk
      · rw [show gBadN x = some x from if_neg q] at hk
        rw [show isNameD x = false from by simpa using q]; exact hk
    rw [gBadN_empty]
    cases hb : xs.all isNameD with
    | false =>
      rw [if_pos (by decide)]
      refine bad3 fun q => ?_
      obtain ⟨ns, rfl, h, _⟩ := hseq q
      have : (ns.map D.str).all isNameD = true := by
        rw [List.all_map]
        exact List.all_eq_true.mpr fun n hn' => h n hn'
      rw [hb] at this; cases this
    | true =>
      rw [if_neg (by decide)]
      obtain ⟨ns, rfl, hn⟩ := names_all hb
      refine hk _ ?_; clear hk; clear nx
      walk_at "row"
      rw [List.length_map] at *
      refine ⟨ns, by simp, by omega, ⟨rfl, by simp [WL.deep]⟩, ?_⟩
      rw [pyEq_ii]
      by_cases hd : ns.Nodup
      · rw [if_pos (by simp; rw [uniq_nd.mpr hd])]
        exact good ⟨hE, hW, (hns ns rfl).mpr ⟨hn, hd, by omega⟩⟩
      · rw [if_neg (by simp; exact fun q => hd (uniq_nd.mp (by omega)))]
        exact bad3 fun q => hd ((hns ns rfl).mp q).2.1
theorem ok_Task___init__ (Y : BY mg) (F_is_number : Fn G P w K mg base "is_number" 1 false m_is_number []) (ErT : ErTb G K mg errNs) (E_BadTask : MkE P w K mg base "BadTask" "part") (F_are_names : Fn G P w K mg base "are_names" 2 false m_are_names []) (ClT : ClTb G K mg clsNs allFs) (hfull : ∀ fs : List (Str × D), fs.map (·.1) = (clsNs[0]?.map (·.2)).getD [] → Own.full G (.ins 0 fs)) {dvs : List V} (F : FunD K "__init__" "Task.__init__" (defArgs (inClass (top 15) 0)) (defBody (inClass (top 15) 0)) (defScope (inClass (top 15) 0)) dvs [] f fd) : FnG P w K mg base 3 f fd ["self", "effort", "worth", "needs"] (spI G K 3 m_Task___init__ 0) := by
  refine fn_I (k := 2) 0 (N := ["effort", "worth", "needs"]) (ps := ["effort", "worth", "needs"]) (pn := "") F sc_Task___init__ fun cdv A outer s H E t0 ds hr gd hp hl tk => ⟨_, _, (b_cons (s_if (t_w (w_or (t_not (t_val (e_call (rk := false) F_is_number hr gd (by decide) (lets tk) (a_cons (e_var 1) a_nil)))) (w_or1 (t_not (t_chain op_le op_le s_le s_le e_int (e_var 1) (e_glob rfl Y.c_MOST_EFFORT fun _ => .int _)))))) (b_one (s_raise1 1 ErT E_BadTask hr gd tk e_str)) b_nil)
    (b_cons (s_if (t_w (w_or (t_not (t_val (e_call (rk := false) F_is_number hr gd (by decide) (lets tk) (a_cons (e_var 2) a_nil)))) (w_or1 (t_not (t_chain op_le op_le s_le s_le e_int (e_var 2) (e_glob rfl Y.c_MOST_WORTH fun _ => .int _)))))) (b_one (s_raise1 1 ErT E_BadTask hr gd tk e_str)) b_nil)
    (b_cons (s_if (t_w (w_or (t_not (t_val (e_call (rk := false) F_are_names hr gd (by decide) (lets tk) (a_cons (e_var 3) a_nil)))) (w_or1 (t_cmp op_ge s_ge (e_len (e_var 3) Y.b_len) (e_glob rfl Y.c_MOST_TASKS fun _ => .int _))))) (b_one (s_raise1 1 ErT E_BadTask hr gd tk e_str)) b_nil)
    (b_cons (s_fld 0 (ClT.fld (f := "own_effort") (by decide)) (e_var 1))
    (b_cons (s_fld 0 (ClT.fld (f := "own_worth") (by decide)) (e_var 2))
    (b_one (s_fld 0 (ClT.fld (f := "own_needs") (by decide)) (e_tupA rfl (e_sorted rfl (e_var 3) Y.b_sorted) Y.b_tuple)))))))), by decide, ?_⟩
  obtain ⟨a, b, c, rfl, ha, hb, hc⟩ := hp
  have bad : ∀ w, BadP a b c w → m_Task___init__.exc [a, b, c] (.exc 1 [.str w]) := fun w h => ⟨a, b, c, w, rfl, h, rfl⟩
  have good : ∀ e w ns, a = .int e → b = .int w → SqW c ns → TaskOk e w ns → m_Task___init__.post [a, b, c] (tI ⟨e, w, srt ns⟩) := fun e w ns e1 e2 h1 h2 => by subst e1; subst e2; exact ⟨e, w, c, ns, rfl, h1, h2, rfl⟩
  refine seq_gen fun nx hk => ?_
  walk_at "row"
  refine ⟨rfl, ⟨_, rfl, ha⟩, fun d hd => ?_, fun _ z => z.elim⟩
  obtain ⟨v', e', rfl⟩ := hd
  simp only [List.cons.injEq, and_true] at e'
  subst e'
  by_cases hE : EffV a
  case neg =>
    have bad1 := bad _ (.inl ⟨rfl, hE⟩)
    cases a with
    | int e =>
      dsimp only [isNum]
      rw [if_neg (by decide)]
      by_cases q : 1 ≤ e
      · rw [if_pos (decide_eq_true q), if_pos (by simp; exact Int.not_le.mp fun q2 => hE ⟨e, rfl, q, q2⟩)]
        exact bad1
      · rw [if_neg (by simpa using q)]
        exact bad1
    | _ => first | exact bad1 | (simp [tyN] at ha; done)
  obtain ⟨e, rfl, e1, e2⟩ := hE
  have hE : EffV (.int e) := ⟨e, rfl, e1, e2⟩
  dsimp only [isNum]
  rw [if_neg (by decide), if_pos (decide_eq_true e1), if_neg (by simp [e2])]
  refine hk _ ?_; clear hk; clear nx
  refine seq_gen fun nx hk => ?_
  walk_at "row"
  refine ⟨rfl, ⟨_, rfl, hb⟩, fun d hd => ?_, fun _ z => z.elim⟩
  obtain ⟨v', e', rfl⟩ := hd
  simp only [List.cons.injEq, and_true] at e'
  subst e'
  by_cases hW : WorV b
  case neg =>
    have bad1 := bad _ (.inr (.inl ⟨rfl, hE, hW⟩))
    cases b with
    | int w =>
      dsimp only [isNum]
      rw [if_neg (by decide)]
      by_cases q : 0 ≤ w
      · rw [if_pos (decide_eq_true q), if_pos (by simp; exact Int.not_le.mp fun q2 => hW ⟨w, rfl, q, q2⟩)]
        exact bad1
      · rw [if_neg (by simpa using q)]
        exact bad1
    | _ => first | exact bad1 | (simp [tyN] at hb; done)
  obtain ⟨w, rfl, w1, w2⟩ := hW
  have hW : WorV (.int w) := ⟨w, rfl, w1, w2⟩
  dsimp only [isNum]
  rw [if_neg (by decide), if_pos (decide_eq_true w1), if_neg (by simp [w2])]
  refine hk _ ?_; clear hk; clear nx
  refine seq_gen fun nx2 hk2 => ?_
  have main : NeeV c → nx2 [some (WL.Slot.own (Own.ins 0 [])), some (WL.Slot.imm (D.int e)), some (WL.Slot.imm (D.int w)), some (WL.Slot.imm c)] := fun hN => by
    obtain ⟨ns, hs, hn, hnd, hl3⟩ := hN
    have fin := good e w ns rfl rfl hs ⟨e1, e2, w1, w2, hn, hnd, hl3⟩
    refine hk2 _ ?_
    clear hk2 bad good
    have hs2 : srtOf c = ns.map D.str := by rcases hs with e | e | ⟨e, e2⟩ <;> first | (rw [e, e2]; rfl) | (rw [e]; rfl)
    rcases hs with rfl | rfl | ⟨rfl, rfl⟩
    all_goals
      walk_at "one"
      refine ⟨⟨by simp, by decide⟩, ⟨by decide, by decide⟩, opSrt_of hs2 (by omega) ?_⟩
      dsimp only
      exact ⟨⟨by decide, by decide⟩, _, rfl, hfull _ rfl, fin⟩
  walk_at "row"
  refine ⟨rfl, ⟨c, rfl, hc⟩, fun d hd => ?_, fun _ z => z.elim⟩
  obtain ⟨v', e', hd⟩ := hd
  simp only [List.cons.injEq, and_true] at e'
  subst e'
  rcases hd with ⟨rfl, hN⟩ | ⟨rfl, hN⟩
  · obtain ⟨ns, hs, hn, hnd⟩ := hN
    have hl : (if 30 ≤ ns.length then m_Task___init__.exc [.int e, .int w, c] (.exc 1 [.str "needs"]) else nx2 [some (WL.Slot.own (Own.ins 0 [])), some (WL.Slot.imm (D.int e)), some (WL.Slot.imm (D.int w)), some (WL.Slot.imm c)]) := by
      split
      · rename_i h
        refine bad _ (.inr (.inr ⟨rfl, hE, hW, fun ⟨ms, hs2, _, _, hl⟩ => ?_⟩))
        rw [hs2.inj hs] at hl; omega
      · rename_i h
        exact main ⟨ns, hs, hn, hnd, by omega⟩
    dsimp only
    rw [if_neg (by decide)]
    rcases hs with rfl | rfl | ⟨rfl, rfl⟩
    case inr.inr =>
      dsimp only
      rw [if_neg (by decide)] at hl ⊢
      exact hl
    all_goals
      dsimp only
      rw [List.length_map]
      by_cases q : 30 ≤ ns.length
      · rw [if_pos q] at hl
        rw [if_pos (by simp; omega)]
        exact hl
      · rw [if_neg q] at hl
        rw [if_neg (by simp; omega)]
        exact hl
  · dsimp only
    rw [if_pos (by decide)]
    refine bad _ (.inr (.inr ⟨rfl, hE, hW, fun ⟨ms, hs2, h1, h2, _⟩ => hN ⟨ms, hs2, h1, h2⟩⟩))
theorem ok__law_pick (Y : BY mg) (F__law_take : Fn G P w K mg base "_law_take" 2 false mTake []) (F : FnP K "_law_pick" 20 f fd) : FnG P w K mg base 3 f fd ["_law_draw", "_law_some"] (spD G K false 2 m__law_pick) := by
  refine fn_D (k := 2) (ps := ["_law_draw", "_law_some"]) F sc__law_pick fun cdv A outer s H E t0 ds hr gd hp hl tk => ⟨_, _, (b_one (s_ret (e_ix (u1 hr) (e_var 1) (e_call (rk := false) F__law_take hr gd (by decide) (lets0 fun _ z => z) (a_cons (e_var 0) (a_cons (e_len (e_var 1) Y.b_len) a_nil)))))), by decide, ?_⟩
  rcases hp with ⟨xs, rfl, h1, h2⟩ | ⟨z, rfl, h1, h2⟩ | ⟨xs, rfl, h1, h2⟩
  · walk_at "one"
    refine ⟨rfl, ⟨_, rfl, by omega, log2_small (by omega)⟩, ?_, fun _ z => z.elim⟩
    rintro _ ⟨n, i, e, rfl, h3, h4⟩
    simp at e
    obtain ⟨d, e1, e2⟩ := atI_lt (xs := xs) h3 (by omega)
    dsimp only
    rw [e1]
    exact .inl ⟨xs, rfl, e2⟩
  · walk_at "one"
    refine ⟨sz _ h2, rfl, ⟨_, rfl, by omega, log2_small (by omega)⟩, ?_, fun _ z => z.elim⟩
    rintro _ ⟨n, i, e, rfl, h3, h4⟩
    simp at e
    obtain ⟨d, e1, e2⟩ := atI_lt (xs := z.cps.toList) h3 (by rw [Array.length_toList]; show i < ((z.length : Nat) : Int); omega)
    dsimp only
    rw [e1]
    exact ⟨sz _ h2, .inr (.inl ⟨z, d, rfl, e2, rfl⟩)⟩
  · walk_at "one"
    refine ⟨rfl, ⟨_, rfl, by omega, log2_small (by omega)⟩, ?_, fun _ z => z.elim⟩
    rintro _ ⟨n, i, e, rfl, h3, h4⟩
    simp at e
    obtain ⟨d, e1, e2⟩ := atI_lt (xs := xs) h3 (by omega)
    dsimp only
    rw [e1]
    exact .inr (.inr ⟨xs, rfl, e2⟩)
theorem ok__law_shuffled (Y : BY mg) (F__law_take : Fn G P w K mg base "_law_take" 2 false mTake []) (F : FnP K "_law_shuffled" 21 f fd) : FnG P w K mg base 3 f fd ["_law_draw", "_law_some"] (spD G K true 2 m__law_shuffled) := by
  refine fn_D (k := 2) (ps := ["_law_draw", "_law_some"]) F sc__law_shuffled fun cdv A outer s H E t0 ds hr gd hp hl tk => ⟨_, _, (b_cons (s_parK 2 3 true true (e_lstA rfl (e_var 1) Y.b_list) (e_lst a_nil) sc__law_shuffled.nd)
    (b_cons (s_whileN 1000 (passes_of rfl) (t_cmp (op_neD (u64 hr)) s_ne (e_own 2) (e_lst a_nil)) (b_one (s_expr (e_append 3 (a_cons (e_popAt 2 (a_cons (e_call (rk := false) F__law_take hr gd (by decide) (lets0 fun _ z => z) (a_cons (e_var 0) (a_cons (e_len (e_own 2) Y.b_len) a_nil))) a_nil)) a_nil)))))
    (b_one (s_retF (e_own 3))))), by decide, ?_⟩
  obtain ⟨v, xs, rfl, hv, hl2, hpl, hdp⟩ := hp
  rcases hv with rfl | rfl
  · walk_at "one"
    refine ⟨fun m ρ => ∃ ms fs : List D, m = ms.length ∧ (fs ++ ms).Perm xs ∧ ρ = [some (.imm (.tok 0)), some (.imm (.tup xs)), some (.own (.lst ms)), some (.own (.lst fs))], ⟨_, hl2, xs, [], rfl, List.Perm.refl _, rfl⟩, ?_⟩
    rintro m ρ ⟨ms, fs, rfl, hp, rfl⟩
    have hlen := hp.length_eq
    rw [List.length_append] at hlen
    walk_at "one"
    refine ⟨plains_sub hpl hdp fun x h => hp.mem_iff.mp (List.mem_append.mpr (.inr h)), ?_⟩
    rw [pyEq_l0]
    cases ms with
    | nil => exact ⟨_, xs, fs, rfl, .inl rfl, rfl, by simpa using hp⟩
    | cons z zs =>
      simp only [List.isEmpty_cons, Bool.not_false, if_true]
      rw [List.length_cons] at hlen
      refine ⟨rfl, ⟨_, rfl, by simp only [List.length_cons]; omega, log2_small (by simp; omega)⟩, fun d hd => ?_, fun _ z => z.elim⟩
      obtain ⟨n, i, e, rfl, h3, h4⟩ := hd
      obtain rfl : ((z :: zs).length : Int) = n := by simpa using e
      have hi : i.toNat < (z :: zs).length := by omega
      have hg : (z :: zs)[i.toNat]? = some (z :: zs)[i.toNat] := List.getElem?_eq_getElem hi
      rw [List.length_cons] at h4
      refine ⟨⟨h3, by omega⟩, ?_⟩
      rw [hg]
      dsimp only
      have hpe := erase_perm (z :: zs) i.toNat _ hg
      refine ⟨by omega, (z :: zs).length - 1, by rw [List.length_cons]; omega, (z :: zs).eraseIdx i.toNat, fs ++ [(z :: zs)[i.toNat]], ?_, ?_, rfl⟩
      · rw [List.length_eraseIdx, if_pos hi]
      · rw [List.append_assoc]
        exact (List.Perm.append_left fs hpe).trans hp
  · walk_at "one"
    refine ⟨fun m ρ => ∃ ms fs : List D, m = ms.length ∧ (fs ++ ms).Perm xs ∧ ρ = [some (.imm (.tok 0)), some (.imm (.lst xs)), some (.own (.lst ms)), some (.own (.lst fs))], ⟨_, hl2, xs, [], rfl, List.Perm.refl _, rfl⟩, ?_⟩
    rintro m ρ ⟨ms, fs, rfl, hp, rfl⟩
    have hlen := hp.length_eq
    rw [List.length_append] at hlen
    walk_at "one"
    refine ⟨plains_sub hpl hdp fun x h => hp.mem_iff.mp (List.mem_append.mpr (.inr h)), ?_⟩
    rw [pyEq_l0]
    cases ms with
    | nil => exact ⟨_, xs, fs, rfl, .inr rfl, rfl, by simpa using hp⟩
    | cons z zs =>
      simp only [List.isEmpty_cons, Bool.not_false, if_true]
      rw [List.length_cons] at hlen
      refine ⟨rfl, ⟨_, rfl, by simp only [List.length_cons]; omega, log2_small (by simp; omega)⟩, fun d hd => ?_, fun _ z => z.elim⟩
      obtain ⟨n, i, e, rfl, h3, h4⟩ := hd
      obtain rfl : ((z :: zs).length : Int) = n := by simpa using e
      have hi : i.toNat < (z :: zs).length := by omega
      have hg : (z :: zs)[i.toNat]? = some (z :: zs)[i.toNat] := List.getElem?_eq_getElem hi
      rw [List.length_cons] at h4
      refine ⟨⟨h3, by omega⟩, ?_⟩
      rw [hg]
      dsimp only
      have hpe := erase_perm (z :: zs) i.toNat _ hg
      refine ⟨by omega, (z :: zs).length - 1, by rw [List.length_cons]; omega, (z :: zs).eraseIdx i.toNat, fs ++ [(z :: zs)[i.toNat]], ?_, ?_, rfl⟩
      · rw [List.length_eraseIdx, if_pos hi]
      · rw [List.append_assoc]
        exact (List.Perm.append_left fs hpe).trans hp
theorem ok__law_drawn_names (Y : BY mg) (F__law_pick : Fn G P w K mg base "_law_pick" 3 false m__law_pick []) (F__law_take : Fn G P w K mg base "_law_take" 2 false mTake []) (F : FnP K "_law_drawn_names" 22 f fd) : FnG P w K mg base 4 f fd ["_law_draw", "_law_total"] (spD G K true 2 m__law_drawn_names) := by
  refine fn_D (k := 3) (ps := ["_law_draw", "_law_total"]) F sc__law_drawn_names fun cdv A outer s H E t0 ds hr gd hp hl tk => ⟨_, _, (b_cons (s_unpK 2 3 false true e_str (e_lst a_nil) sc__law_drawn_names.nd)
    (b_cons (s_set 4 (e_fz (e_lst (a_cons e_str (a_cons e_str (a_cons e_str (a_cons e_str (a_cons e_str (a_cons e_str (a_cons e_str (a_cons e_str a_nil)))))))))) sc__law_drawn_names.nd)
    (b_cons (s_forN 64 (passes_of rfl) rfl (i_rng1 (a_cons (e_var 1) a_nil) Y.b_range) (g_name 5 sc__law_drawn_names.nd) (b_cons (s_unp (g_tup (n := 2) rfl (gs_cons (g_name 6 sc__law_drawn_names.nd) (gs_cons (g_name 7 sc__law_drawn_names.nd) gs_nil))) (e_tup (a_cons (e_call (rk := false) F__law_take hr gd (by decide) (lets0 fun _ z => z) (a_cons (e_var 0) (a_cons e_int a_nil))) (a_cons (e_call (rk := false) F__law_pick hr gd (by decide) (lets0 fun _ z => z) (a_cons (e_var 0) (a_cons (e_var 4) a_nil))) a_nil))))
    (b_cons (s_set 8 (e_call (rk := false) F__law_pick hr gd (by decide) (lets0 fun _ z => z) (a_cons (e_var 0) (a_cons (e_fz (e_lst (a_cons e_int (a_cons e_int (a_cons e_int (a_cons e_int (a_cons e_int a_nil))))))) a_nil))) sc__law_drawn_names.nd)
    (b_cons (s_if (t_cmp op_gt s_gt (e_var 6) e_int) (b_one (s_set 7 (e_join e_str (e_lc (own := [("_law_j", 9)]) rfl sc__law_drawn_names.nd (i_rng1 (a_cons (e_var 8) a_nil) Y.b_range) (BlkOk.mk (N := ["_law_draw", "_law_total", "_law_letters", "_law_found", "_law_some", "_law_k", "_law_way", "_law_word", "_law_size", "_law_j", "_law_at", "_law_near", "_law_letter", "_law_single"]) (sc := defScope (top 22)) rfl (by decide +kernel) (by decide +kernel) (by decide +kernel) (by decide +kernel)) (fun _ _ _ _ _ => (g_name 9 sc__law_drawn_names.nd)) (fun _ _ _ _ _ => ts_nil) (fun _ _ _ _ _ => (e_call (rk := false) F__law_pick hr gd (by decide) (lets0 fun _ z => z) (a_cons (e_var 0) (a_cons (e_var 2) a_nil)))))) sc__law_drawn_names.nd)) b_nil)
    (b_cons (s_if (t_w (w_and (t_cmp (op_eqD (u64 hr)) s_eq (e_var 6) e_int) (w_and1 (t_cmp (op_neD (u64 hr)) s_ne (e_own 3) (e_lst a_nil))))) (b_cons (s_set 10 (e_call (rk := false) F__law_take hr gd (by decide) (lets0 fun _ z => z) (a_cons (e_var 0) (a_cons (e_len (e_ix (u1 hr) (e_own 3) (e_un un_neg s_neg e_int)) Y.b_len) a_nil))) sc__law_drawn_names.nd)
    (b_one (s_set 7 (e_op op_addA s_addA (e_op op_addA s_addA (e_sl (e_ix (u1 hr) (e_own 3) (e_un un_neg s_neg e_int)) o_none (o_some (e_var 10))) (e_call (rk := false) F__law_pick hr gd (by decide) (lets0 fun _ z => z) (a_cons (e_var 0) (a_cons (e_var 2) a_nil)))) (e_sl (e_ix (u1 hr) (e_own 3) (e_un un_neg s_neg e_int)) (o_some (e_op op_addA s_addA (e_var 10) e_int)) o_none)) sc__law_drawn_names.nd))) b_nil)
    (b_cons (s_set 11 (e_op op_addA s_addA (e_fz (e_lst (a_cons (e_var 7) a_nil))) (e_lc (own := [("_law_letter", 12)]) rfl sc__law_drawn_names.nd (i_all (e_var 2)) (BlkOk.mk (N := ["_law_draw", "_law_total", "_law_letters", "_law_found", "_law_some", "_law_k", "_law_way", "_law_word", "_law_size", "_law_j", "_law_at", "_law_near", "_law_letter", "_law_single"]) (sc := defScope (top 22)) rfl (by decide +kernel) (by decide +kernel) (by decide +kernel) (by decide +kernel)) (fun _ _ _ _ _ => (g_name 12 sc__law_drawn_names.nd)) (fun _ _ _ _ _ => ts_nil) (fun _ _ _ _ _ => (e_op op_addA s_addA (e_sl (e_var 7) o_none (o_some e_int)) (e_var 12))))) sc__law_drawn_names.nd)
    (b_cons (s_set 11 (e_op op_addA s_addA (e_var 11) (e_lc (own := [("_law_letter", 12)]) rfl sc__law_drawn_names.nd (i_all (e_var 2)) (BlkOk.mk (N := ["_law_draw", "_law_total", "_law_letters", "_law_found", "_law_some", "_law_k", "_law_way", "_law_word", "_law_size", "_law_j", "_law_at", "_law_near", "_law_letter", "_law_single"]) (sc := defScope (top 22)) rfl (by decide +kernel) (by decide +kernel) (by decide +kernel) (by decide +kernel)) (fun _ _ _ _ _ => (g_name 12 sc__law_drawn_names.nd)) (fun _ _ _ _ _ => ts_nil) (fun _ _ _ _ _ => (e_op op_addA s_addA (e_op op_addA s_addA (e_sl (e_var 7) o_none (o_some e_int)) (e_var 12)) e_str)))) sc__law_drawn_names.nd)
    (b_one (s_expr (e_append 3 (a_cons (e_ix (u1 hr) (e_fz (e_lc (own := [("_law_single", 13)]) rfl sc__law_drawn_names.nd (i_all (e_var 11)) (BlkOk.mk (N := ["_law_draw", "_law_total", "_law_letters", "_law_found", "_law_some", "_law_k", "_law_way", "_law_word", "_law_size", "_law_j", "_law_at", "_law_near", "_law_letter", "_law_single"]) (sc := defScope (top 22)) rfl (by decide +kernel) (by decide +kernel) (by decide +kernel) (by decide +kernel)) (fun _ _ _ _ _ => (g_name 13 sc__law_drawn_names.nd)) (fun _ _ _ _ _ => (ts_one (t_cmp (op_notInA (u1 hr)) s_in (e_var 13) (e_own 3)))) (fun _ _ _ _ _ => (e_var 13)))) e_int) a_nil)))))))))))
    (b_one (s_retF (e_own 3)))))), by decide, ?_⟩
  obtain ⟨n, rfl, hn⟩ := hp
  refine seq_gen fun nx hk => ?_
  walk_at "row"
  refine hk _ ?_; clear hk; clear nx
  refine seq_gen fun nx hk => ?_
  walk_at "row"
  refine hk _ ?_; clear hk; clear nx
  refine seq_gen fun nx hk => ?_
  walk_at "row"
  refine ⟨by omega, by simp [rngD]; omega, forL_ix (drawnW n) _ 0 _ ⟨[], none, none, none, none, none, none, rfl, .nil, (by simp), rfl⟩ (fun ρ h => ?_) fun i x hx ρ nx2 h hk2 => ?_⟩
  · obtain ⟨fs, _, _, _, _, _, _, hl2, hnd, hln, rfl⟩ := h
    refine hk _ ?_; clear hk; clear nx
    walk_at "row"
    refine ⟨n, fs, rfl, rfl, ?_, hnd, hln⟩
    rw [hl2]; simp [rngD]
  obtain ⟨fs, s5, s6, s7, s8, s10, s11, hl2, hnd, hln, rfl⟩ := h
  have hi : i < 31 := by
    have := (List.getElem?_eq_some_iff.mp hx).1
    simp [rngD] at this; omega
  have hfl : fs.length ≤ 31 := by omega
  clear hk
  walk_at "row"
  refine seq_gen fun nx hk => ?_
  walk_at "row"
  refine ⟨rfl, ⟨4, rfl, by decide, by decide⟩, fun d hd => ?_, fun _ z => z.elim⟩
  obtain ⟨_, way, _, rfl, _, _⟩ := hd
  refine ⟨rfl, .inl ⟨_, rfl, by decide, by decide⟩, fun d hd => ?_, fun _ z => z.elim⟩
  obtain ⟨w, rfl, hw⟩ : ∃ w, d = .str w ∧ LN w := by
    rcases hd with ⟨xs, e, hm⟩ | ⟨z, c, e, _⟩ | ⟨ws, e, _⟩
    · simp only [List.cons.injEq, D.lst.injEq, true_and, and_true] at e
      subst e
      obtain ⟨w, hw, rfl⟩ := List.mem_map.mp (show d ∈ someN.map D.str from hm)
      exact ⟨w, rfl, some_ln w hw⟩
    · simp at e
    · simp at e
  refine hk _ ?_; clear hk; clear nx
  refine seq_gen fun nx hk => ?_
  walk_at "row"
  refine ⟨rfl, .inl ⟨_, rfl, by decide, by decide⟩, fun d hd => ?_, fun _ z => z.elim⟩
  obtain ⟨m, rfl, m1, m2⟩ : ∃ m : Nat, d = .int m ∧ 1 ≤ m ∧ m ≤ 8 := by
    rcases hd with ⟨xs, e, hm⟩ | ⟨z, c, e, _⟩ | ⟨ws, e, _⟩
    · simp only [List.cons.injEq, D.lst.injEq, true_and, and_true] at e
      subst e
      simp only [List.mem_cons, List.not_mem_nil, or_false] at hm
      rcases hm with e | e | e | e | e <;> subst e <;> first | exact ⟨1, rfl, by decide, by decide⟩ | exact ⟨2, rfl, by decide, by decide⟩ | exact ⟨3, rfl, by decide, by decide⟩ | exact ⟨8, rfl, by decide, by decide⟩
    · simp at e
    · simp at e
  refine hk _ ?_; clear hk; clear nx
  refine seq_gen fun nx3 hk3 => ?_
  have hb1 : ∀ w, LN w → nx3 [some (.imm (.tok 0)), some (.imm (.int n)), some (.imm (.str abc)), some (.own (.lst (fs.map D.str))), some (.imm (.lst (someN.map D.str))), some (.imm x), some (.imm (.int way)), some (.imm (.str w)), some (.imm (.int m)), none, s10, s11, none, none] := by
    intro w hw
    refine hk3 _ ?_
    clear hk3
    refine seq_gen fun nx4 hk4 => ?_
    have hb2 : ∀ (w : Str) (s10 : Option WL.Slot), LN w → nx4 [some (.imm (.tok 0)), some (.imm (.int n)), some (.imm (.str abc)), some (.own (.lst (fs.map D.str))), some (.imm (.lst (someN.map D.str))), some (.imm x), some (.imm (.int way)), some (.imm (.str w)), some (.imm (.int m)), none, s10, s11, none, none] := by
      intro w s10 hw
      refine hk4 _ ?_
      clear hk4
      have hcut : ∀ u : Option Int, (cutS w none u).length ≤ 8 := fun u => by
        rw [← len_l, cutS_l]
        unfold cutL
        rw [List.length_take, List.length_drop, len_l]
        have := hw.hi
        omega
      have hlw := hw.hi
      refine seq_gen fun nx hk => ?_
      walk_at "row"
      refine ⟨noOwn_nil (by simp), by decide, ?_⟩
      refine lcL_rel (fun x o => ∃ c, x = .str ⟨#[c]⟩ ∧ o = some (f7 w x)) _ _ (fun x hx Kp hk => ?_) fun ys ho => ?_
      · simp only [strD, List.mem_map] at hx
        obtain ⟨c, hc, rfl⟩ := hx
        walk_at "one"
        have h1 := hcut (some 7)
        refine ⟨by omega, by show _ + 1 ≤ _; omega, hk _ ⟨c, rfl, rfl⟩⟩
      rw [ho.map (f := f7 w) (fun x o ⟨c, _, e⟩ => e), near7, List.nil_append]
      refine ⟨by simp [nearA]; decide, ?_⟩
      refine hk _ ?_; clear hk; clear nx
      refine seq_gen fun nx hk => ?_
      walk_at "row"
      refine ⟨noOwn_nil (by simp), by decide, ?_⟩
      refine lcL_rel (fun x o => ∃ c, x = .str ⟨#[c]⟩ ∧ o = some (f6 w x)) _ _ (fun x hx Kp hk => ?_) fun ys ho => ?_
      · simp only [strD, List.mem_map] at hx
        obtain ⟨c, hc, rfl⟩ := hx
        walk_at "one"
        have h1 := hcut (some 6)
        have h2 : (cutS w none (some 6) ++ (⟨#[c]⟩ : Str)).length ≤ 9 := by rw [strLen_append]; show _ + 1 ≤ _; omega
        refine ⟨by omega, by show _ + 1 ≤ _; omega, by show _ + 1 ≤ _; omega, hk _ ⟨c, rfl, rfl⟩⟩
      rw [ho.map (f := f6 w) (fun x o ⟨c, _, e⟩ => e), near6, List.nil_append]
      refine ⟨by simp [nearA, nearB]; decide, ?_⟩
      refine hk _ ?_; clear hk; clear nx
      walk_at "row"
      refine ⟨noOwn_nil (by simp), by simp [nearA, nearB]; decide, ?_⟩
      rw [← List.map_append, ← List.map_cons (f := D.str)]
      refine lcL_rel (fun x o => o = fresh fs x) _ _ (fun x hx Kp hk => ?_) fun ys ho => ?_
      · obtain ⟨z, hz, rfl⟩ := List.mem_map.mp hx
        walk_at "one"
        refine ⟨⟨rfl, flat_strs _⟩, ?_⟩
        rw [memF_strs]
        by_cases hm : z ∈ fs
        · rw [if_neg (by simp [hm])]
          exact hk _ (by simp [fresh, hm])
        · rw [if_pos (by simp [hm])]
          exact hk _ (by simp [fresh, hm])
      have ey := ho.filterMap (f := fresh fs) fun x o e => e
      obtain ⟨z0, hz0, hz1⟩ := near_ex w fs (by omega)
      have hin : D.str z0 ∈ ys := by
        rw [ey]
        exact List.mem_filterMap.mpr ⟨.str z0, List.mem_map.mpr ⟨z0, .tail _ hz0, rfl⟩, by simp [fresh, hz1]⟩
      rw [List.nil_append]
      cases ys with
      | nil => cases hin
      | cons y ys =>
        have hy : y ∈ (List.map D.str (w :: (nearA w ++ nearB w))).filterMap (fresh fs) := by rw [← ey]; exact .head _
        obtain ⟨a, ha, e⟩ := List.mem_filterMap.mp hy
        obtain ⟨z, hz, rfl⟩ := List.mem_map.mp ha
        have hzf : z ∉ fs ∧ y = .str z := by
          simp only [fresh] at e
          split at e
          · cases e
          · rename_i q; cases e; exact ⟨q, rfl⟩
        obtain ⟨hzf, rfl⟩ := hzf
        have hzl : LN z := by
          rcases List.mem_cons.mp hz with e | hz
          · rw [e]; exact hw
          · exact near_ln hw z hz
        rw [atI_0]
        dsimp only
        refine ⟨by rw [List.length_map]; omega, hk2 _ ⟨fs ++ [z], _, _, _, _, _, _, by rw [List.length_append, hl2]; simp, ?_, ?_, by rw [List.map_append]; rfl⟩⟩
        · exact List.nodup_append.mpr ⟨hnd, by simp, fun a ha b hb e => hzf (by rw [List.mem_singleton.mp hb] at e; rw [← e]; exact ha)⟩
        · intro v hv
          rcases List.mem_append.mp hv with h | h
          · exact hln v h
          · rw [List.mem_singleton.mp h]; exact hzl
    clear hk4
    walk_at "row"
    split
    · refine ⟨⟨plains_str hln, by have := deeps_str fs; omega⟩, ?_⟩
      rw [pyEq_l0]
      split
      · rename_i hne
        have hne : fs ≠ [] := by rintro rfl; simp at hne
        obtain ⟨z, hz, ez⟩ := atI_last hne
        have ez : atI (fs.map D.str) (-1) = some (.str z) := by rw [atI_map, ez]; rfl
        have hzl := hln z hz
        have hz8 := hzl.hi
        have hz1 := hzl.lo
        refine seq_gen fun nx hk => ?_
        walk_at "row"
        rw [ez]
        dsimp only
        refine ⟨by omega, rfl, ⟨_, rfl, by omega, log2_small (by omega)⟩, fun d hd => ?_, fun _ z => z.elim⟩
        obtain ⟨_, at_, e, rfl, a0, a1⟩ := hd
        simp at e
        subst e
        refine hk _ ?_; clear hk; clear nx
        walk_at "row"
        rw [ez]
        dsimp only
        obtain ⟨ai, rfl⟩ := Int.eq_ofNat_of_zero_le a0
        refine ⟨by omega, rfl, .inr (.inl ⟨abc, rfl, by decide, by decide⟩), fun d hd => ?_, fun _ z => z.elim⟩
        obtain ⟨c, hc, rfl⟩ : ∃ c, c ∈ abc.cps.toList ∧ d = .str ⟨#[c]⟩ := by
          rcases hd with ⟨xs, e, hm⟩ | ⟨y, c, e, hc, rfl⟩ | ⟨ws, e, _⟩
          · simp at e
          · simp only [List.cons.injEq, D.str.injEq, true_and, and_true] at e
            rw [← e] at hc; exact ⟨c, hc, rfl⟩
          · simp at e
        dsimp only
        have c1 := cutS_len z none (some (ai : Int))
        have c2 := cutS_len z (some ((ai : Int) + 1)) none
        have l1 : (cutS z none (some (ai : Int)) ++ (⟨#[c]⟩ : Str)).length ≤ 9 := by rw [strLen_append]; show _ + 1 ≤ _; omega
        exact ⟨by show _ + 1 ≤ _; omega, by omega, by omega, hb2 _ _ (swap_ln hzl (by omega) hc)⟩
      · exact hb2 w s10 hw
    · exact hb2 w s10 hw
  clear hk3
  walk_at "row"
  split
  · refine ⟨by omega, noOwn_nil (by simp), by simp [rngD]; omega, ?_⟩
    refine lcL_rel (fun x o => ∃ c, c ∈ abc.cps.toList ∧ o = some (.str ⟨#[c]⟩)) _ _ (fun x hx Kp hk => ?_) fun ys ho => ?_
    · walk_at "one"
      refine ⟨rfl, .inr (.inl ⟨abc, rfl, by decide, by decide⟩), fun d hd => ?_, fun _ z => z.elim⟩
      rcases hd with ⟨xs, e, hm⟩ | ⟨z, c, e, hc, rfl⟩ | ⟨ws, e, _⟩
      · simp at e
      · simp only [List.cons.injEq, D.str.injEq, true_and, and_true] at e
        subst e
        exact hk _ ⟨c, hc, rfl⟩
      · simp at e
    obtain ⟨cs, rfl, hcs, hlen⟩ := outs_chars ho
    rw [List.nil_append, strsL_chars]
    have hlen2 : cs.length = m := by rw [hlen]; simp [rngD]
    dsimp only
    refine ⟨by rw [sum_ones, List.length_map]; show cs.length + cs.length * 0 ≤ _; omega, ?_⟩
    have hz := join_chars cs
    refine hb1 _ ⟨fun c hc => hcs c (by rw [← hz]; exact hc), ?_, ?_⟩ <;> rw [← len_l, hz, hlen2] <;> assumption
  · exact hb1 w hw
theorem ok__law_numbers (Y : BY mg) (F__law_pick : Fn G P w K mg base "_law_pick" 3 false m__law_pick []) (F__law_take : Fn G P w K mg base "_law_take" 2 false mTake []) (F : FnP K "_law_numbers" 23 f fd) : FnG P w K mg base 4 f fd ["_law_draw"] (spD G K false 1 m__law_numbers) := by
  refine fn_D (k := 3) (ps := ["_law_draw"]) F sc__law_numbers fun cdv A outer s H E t0 ds hr gd hp hl tk => ⟨_, _, (b_cons (s_set 1 (e_call (rk := false) F__law_pick hr gd (by decide) (lets0 fun _ z => z) (a_cons (e_var 0) (a_cons (e_fz (e_lst (a_cons e_int (a_cons e_int (a_cons e_int (a_cons e_int a_nil)))))) a_nil))) sc__law_numbers.nd)
    (b_cons (s_set 2 (e_call (rk := false) F__law_take hr gd (by decide) (lets0 fun _ z => z) (a_cons (e_var 0) (a_cons (e_op op_addA s_addA (e_var 1) e_int) a_nil))) sc__law_numbers.nd)
    (b_one (s_ret (e_tup (a_cons (e_op op_addA s_addA e_int (e_call (rk := false) F__law_take hr gd (by decide) (lets0 fun _ z => z) (a_cons (e_var 0) (a_cons (e_var 1) a_nil)))) (a_cons (e_call (rk := false) F__law_pick hr gd (by decide) (lets0 fun _ z => z) (a_cons (e_var 0) (a_cons (e_fz (e_lst (a_cons (e_var 2) (a_cons (e_var 2) (a_cons (e_var 2) (a_cons e_int a_nil)))))) a_nil))) a_nil))))))), by decide, ?_⟩
  obtain rfl := hp
  walk_at "one"
  refine ⟨rfl, .inl ⟨_, rfl, by decide, by decide⟩, fun d hd => ?_, fun _ z => z.elim⟩
  obtain ⟨m, rfl, m1, m2⟩ : ∃ m : Int, d = .int m ∧ 2 ≤ m ∧ m ≤ 100 := by
    rcases hd with ⟨xs, e, hm⟩ | ⟨z, c, e, _⟩ | ⟨ws, e, _⟩
    · simp only [List.cons.injEq, D.lst.injEq, true_and, and_true] at e
      subst e
      simp only [List.mem_cons, List.not_mem_nil, or_false] at hm
      rcases hm with e | e | e | e <;> subst e <;> exact ⟨_, rfl, by decide, by decide⟩
    · simp at e
    · simp at e
  walk_at "one"
  refine ⟨rfl, ⟨_, rfl, by omega, log2_small (by omega)⟩, fun d hd => ?_, fun _ z => z.elim⟩
  obtain ⟨n, j, e, rfl, h3, h4⟩ := hd
  simp at e
  refine ⟨rfl, ⟨_, rfl, by omega, log2_small (by omega)⟩, fun d hd => ?_, fun _ z => z.elim⟩
  obtain ⟨n2, k, e2, rfl, h5, h6⟩ := hd
  simp at e2
  refine ⟨rfl, .inl ⟨_, rfl, by simp, by simp⟩, fun d hd => ?_, fun _ z => z.elim⟩
  obtain ⟨q, rfl, q1, q2⟩ : ∃ q : Int, d = .int q ∧ 0 ≤ q ∧ q ≤ 100 := by
    rcases hd with ⟨xs, e, hm⟩ | ⟨z, c, e, _⟩ | ⟨ws, e, _⟩
    · simp only [List.cons.injEq, D.lst.injEq, true_and, and_true] at e
      subst e
      simp only [List.mem_cons, List.not_mem_nil, or_false] at hm
      rcases hm with e | e | e | e <;> subst e
      · exact ⟨_, rfl, by omega, by omega⟩
      · exact ⟨_, rfl, by omega, by omega⟩
      · exact ⟨_, rfl, by omega, by omega⟩
      · exact ⟨_, rfl, by omega, by omega⟩
    · simp at e
    · simp at e
  exact ⟨_, _, rfl, by omega, by omega, q1, q2⟩
theorem ok__law_bent (Y : BY mg) (F__law_take : Fn G P w K mg base "_law_take" 2 false mTake []) (F__law_pick : Fn G P w K mg base "_law_pick" 3 false m__law_pick []) (F : FnP K "_law_bent" 28 f fd) : FnG P w K mg base 4 f fd ["_law_draw", "_law_parts"] (spD G K false 2 m__law_bent) := by
  refine fn_D (k := 3) (ps := ["_law_draw", "_law_parts"]) F sc__law_bent fun cdv A outer s H E t0 ds hr gd hp hl tk => ⟨_, _, (b_cons (s_parK 2 3 false true (e_call (rk := false) F__law_take hr gd (by decide) (lets0 fun _ z => z) (a_cons (e_var 0) (a_cons e_int a_nil))) (e_lstA rfl (e_var 1) Y.b_list) sc__law_bent.nd)
    (b_cons (s_set 4 (e_fz (e_lstA rfl (e_ix (u1 hr) (e_own 3) e_int) Y.b_list)) sc__law_bent.nd)
    (b_cons (s_set 5 (e_fz (e_lst (a_cons e_non (a_cons e_bl (a_cons e_bl (a_cons e_str (a_cons (e_un un_neg s_neg e_int) (a_cons (e_fz (e_lst (a_cons e_int a_nil))) (a_cons (e_tup (a_cons e_int a_nil)) (a_cons (e_fz e_dnew) a_nil)))))))))) sc__law_bent.nd)
    (b_cons (s_if (t_cmp op_lt s_lt (e_var 2) e_int) (b_cons (s_setI 3 (e_call (rk := false) F__law_pick hr gd (by decide) (lets0 fun _ z => z) (a_cons (e_var 0) (a_cons (e_op op_addA s_addA (e_var 5) (e_lst (a_cons e_int (a_cons e_int (a_cons e_int (a_cons e_int (a_cons (e_op op_powW s_pow e_int e_int) (a_cons (e_ix (u1 hr) (e_own 3) (e_op op_sub s_sub e_int (e_var 2))) a_nil)))))))) a_nil))) (e_var 2))
    (b_still 3 (b_one (s_ret (e_tupA rfl (e_var 3) Y.b_tuple))))) b_nil)
    (b_cons (s_setOLc (own := [("_law_k", 7)]) 6 rfl sc__law_bent.nd (i_rng1 (a_cons e_int a_nil) Y.b_range) (BlkOk.mk (N := ["_law_draw", "_law_parts", "_law_at", "_law_found", "_law_wants", "_law_odd", "_law_spare", "_law_k", "_law_more"]) (sc := defScope (top 28)) rfl (by decide +kernel) (by decide +kernel) (by decide +kernel) (by decide +kernel)) (fun _ _ _ _ _ => (g_name 7 sc__law_bent.nd)) (fun _ _ _ _ _ => ts_nil) (fun _ _ _ _ _ => (e_op op_addA s_addA (e_op op_addA s_addA e_str (e_ix (u1 hr) e_str (e_op op_fdivW s_div (e_var 7) e_int))) (e_ix (u1 hr) e_str (e_op op_mod s_mod (e_var 7) e_int)))))
    (b_still 6 (b_cons (s_set 8 (e_fz (e_lst (a_cons (e_op op_addA s_addA (e_var 4) (e_sl (e_var 4) o_none (o_some e_int))) (a_cons (e_op op_addA s_addA (e_var 4) (e_lst (a_cons e_str a_nil))) (a_cons (e_op op_addA s_addA (e_var 4) (e_lst (a_cons e_str a_nil))) (a_cons (e_op op_addA s_addA (e_var 4) (e_lst (a_cons e_str a_nil))) (a_cons (e_op op_addA s_addA (e_var 4) (e_lst (a_cons e_non a_nil))) (a_cons (e_op op_addA s_addA (e_var 4) (e_lst (a_cons (e_fz (e_lst (a_cons e_str a_nil))) a_nil))) a_nil)))))))) sc__law_bent.nd)
    (b_cons (s_set 8 (e_op op_addA s_addA (e_var 8) (e_lst (a_cons e_non (a_cons e_int (a_cons e_str (a_cons (e_fz (e_disp (p_cons e_str e_int p_nil))) (a_cons e_bl (a_cons (e_tupA rfl (e_var 4) Y.b_tuple) (a_cons (e_sl (e_var 6) o_none (o_some e_int)) (a_cons (e_var 6) (a_cons (e_fz (e_revL (e_var 4))) (a_cons (e_op op_addA s_addA (e_var 4) (e_lst (a_cons (e_tup (a_cons e_str a_nil)) a_nil))) a_nil)))))))))))) sc__law_bent.nd)
    (b_cons (s_setI 3 (e_call (rk := false) F__law_pick hr gd (by decide) (lets0 fun _ z => z) (a_cons (e_var 0) (a_cons (e_var 8) a_nil))) e_int)
    (b_still 3 (b_one (s_ret (e_tupA rfl (e_var 3) Y.b_tuple))))))))))))), by decide, ?_⟩
  obtain ⟨a, b, c, n, rfl, ha, hb, hc, ⟨xs, hx⟩, hn⟩ := hp
  refine seq_gen fun nx hk => ?_
  walk_at "row"
  refine ⟨rfl, ⟨_, rfl, by decide, by decide⟩, fun d hd => ?_, fun _ z => z.elim⟩
  obtain ⟨at_, rfl, h0, h1⟩ := take_ofs hd
  have hvx : c = .tup xs ∨ c = .lst xs := by
    cases c <;> simp [itemsV] at hx
    · exact .inl (by rw [hx])
    · exact .inr (by rw [hx])
  obtain ⟨hl, hall⟩ := hc.it xs hx
  have fin : ∀ (d : D), (∃ a' b' c', d = .tup [a', b', c'] ∧ SmD a' ∧ SmD b' ∧ ∀ n, n ≤ 60 → NeV n c → NeV (n + 31) c') → m__law_bent.post [.tok 0, .tup [a, b, c]] d := fun d ⟨a', b', c', h⟩ => ⟨a, b, c, a', b', c', rfl, h⟩
  have e2 : atI [a, b, c] 2 = some c := rfl
  refine hk _ ?_; clear hk; clear nx
  refine seq_gen fun nx hk => ?_
  walk_at "row"
  have go : nx [some (WL.Slot.imm (.tok 0)), some (WL.Slot.imm (.tup [a, b, c])), some (WL.Slot.imm (.int at_)), some (WL.Slot.own (.lst [a, b, c])), some (WL.Slot.imm (.lst xs)), none, none, none, none] := by
    clear e2
    refine hk _ ?_; clear hk; clear nx
    refine seq_gen fun nx hk => ?_
    walk_at "row"
    refine hk _ ?_; clear hk; clear nx
    refine seq_gen fun nx hk => ?_
    walk_at "row"
    have hat : at_ = 0 ∨ at_ = 1 ∨ at_ = 2 := by omega
    have small : ∀ (i : Int) (q : D), (i = 0 ∨ i = 1) → (atI [a, b, c] (1 - i) = some q) → SmD q := fun i q hi e => by
      rcases hi with rfl | rfl
      · have : some b = some q := e
        cases this; exact hb
      · have : some a = some q := e
        cases this; exact ha
    have pick1 : ∀ (q d : D), SmD q → m__law_pick.post [.tok 0, .lst ([D.non, D.bl true, D.bl false, D.str "1", D.int (-1), D.lst [D.int 1], D.tup [D.int 1], D.dct []] ++ [D.int 0, D.int 1, D.int 100, D.int 101, D.int (10 ^ 30), q])] d → SmD d := fun q d hq h => by
      have := pick_of h
      simp only [List.mem_append, List.mem_cons, List.not_mem_nil, or_false] at this
      rcases this with (e | e | e | e | e | e | e | e) | e | e | e | e | e | e
      all_goals first
        | (subst e; exact ⟨rfl, by decide +kernel, by decide +kernel, by decide +kernel⟩)
        | (subst e; exact hq)
    rcases hat with rfl | rfl | rfl
    · rw [if_pos (by decide)]
      refine seq_gen fun nx hk => ?_
      walk_at "row"
      refine ⟨⟨by decide, by decide, by decide⟩, ?_⟩
      rw [show atI [a, b, c] (1 - 0) = some b from rfl]
      refine ⟨rfl, .inl ⟨_, rfl, by simp, by simp⟩, fun d hd => ?_, fun _ z => z.elim⟩
      have hs := pick1 b d hb hd
      refine ⟨_, 0, rfl, rfl, ?_⟩
      refine hk _ ?_; clear hk; clear nx
      refine ⟨_, rfl, rfl, ?_⟩
      walk_at "row"
      exact fin _ ⟨d, b, c, rfl, hs, hb, fun n _ h => ⟨h.ty, h.re, fun xs e => ⟨by have := (h.it xs e).1; omega, (h.it xs e).2⟩⟩⟩
    · rw [if_pos (by decide)]
      refine seq_gen fun nx hk => ?_
      walk_at "row"
      refine ⟨⟨by decide, by decide, by decide⟩, ?_⟩
      rw [show atI [a, b, c] (1 - 1) = some a from rfl]
      refine ⟨rfl, .inl ⟨_, rfl, by simp, by simp⟩, fun d hd => ?_, fun _ z => z.elim⟩
      have hs := pick1 a d ha hd
      refine ⟨_, 1, rfl, rfl, ?_⟩
      refine hk _ ?_; clear hk; clear nx
      refine ⟨_, rfl, rfl, ?_⟩
      walk_at "row"
      exact fin _ ⟨a, d, c, rfl, ha, hs, fun n _ h => ⟨h.ty, h.re, fun xs e => ⟨by have := (h.it xs e).1; omega, (h.it xs e).2⟩⟩⟩
    rw [if_neg (by decide)]
    refine hk _ ?_; clear hk; clear nx
    refine seq_gen fun nx hk => ?_
    walk_at "row"
    refine ⟨noOwn_nil (by simp), by rw [rngD_len]; decide, ?_⟩
    refine lcL_rel (fun x o => ∃ z, o = some (.str z) ∧ LN z) _ _ (fun x hx Kp hk => ?_) fun ys ho => ?_
    · obtain ⟨i, hi⟩ := List.mem_iff_getElem?.mp hx
      obtain ⟨rfl, hi⟩ := rngD_get hi
      walk_at "row"
      obtain ⟨c1, q1, m1⟩ := atI_lt (xs := ("abcdef" : Str).cps.toList) (i := (i : Int) / 5) (by omega) (by
        have : ("abcdef" : Str).cps.toList.length = 6 := by decide +kernel
        rw [this]; omega)
      obtain ⟨c2, q2, m2⟩ := atI_lt (xs := ("ghijk" : Str).cps.toList) (i := (i : Int) % 5) (by omega) (by
        have : ("ghijk" : Str).cps.toList.length = 5 := by decide +kernel
        rw [this]; omega)
      refine ⟨⟨by decide, by decide +kernel⟩, by decide, ?_⟩
      rw [q1]
      refine ⟨by show ("q" : Str).length + 1 ≤ _; decide, by decide, ?_⟩
      rw [q2]
      exact ⟨by rw [ln_l (z := "q" ++ (⟨#[c1]⟩ : Str)) (n := 2) (by rw [app_l, q_l]; rfl)]; show 2 + 1 ≤ _; omega, hk _ ⟨_, rfl, spare_ln m1 m2⟩⟩
    obtain ⟨zs, rfl, hz, hzl⟩ := outs_ln ho
    rw [rngD_len] at hzl
    refine hk _ ?_; clear hk; clear nx
    refine ⟨_, rfl, rfl, ?_⟩
    dsimp only [WL.Own.d, List.set_cons_succ, List.set_cons_zero]
    refine seq_gen fun nx hk => ?_
    have lA : ∀ ys : List D, ys.length ≤ 60 → xs.length + ys.length ≤ 16777216 := fun ys h => by omega
    simp only [fSet, fLst]
    refine cons_eq (.lst (xs ++ cutL xs none (some 1))) (fun Kc hK => ?_) ?_
    · walk_at "row"
      exact ⟨by have := (cutL_sub xs none (some 1)).length_le; omega, hK⟩
    refine cons_eq (.lst (xs ++ [.str "A"])) (fun Kc hK => ?_) ?_
    · walk_at "row"
      exact ⟨by omega, hK⟩
    refine cons_eq (.lst (xs ++ [.str ""])) (fun Kc hK => ?_) ?_
    · walk_at "row"
      exact ⟨by omega, hK⟩
    refine cons_eq (.lst (xs ++ [.str "abcdefghi"])) (fun Kc hK => ?_) ?_
    · walk_at "row"
      exact ⟨by omega, hK⟩
    refine cons_eq (.lst (xs ++ [.non])) (fun Kc hK => ?_) ?_
    · walk_at "row"
      exact ⟨by omega, hK⟩
    refine cons_eq (.lst (xs ++ [.lst [.str "a"]])) (fun Kc hK => ?_) ?_
    · walk_at "row"
      exact ⟨by omega, hK⟩
    refine ⟨by rw [sizeLine_eq]; simp, ?_⟩
    refine hk _ ?_; clear hk; clear nx
    refine seq_gen fun nx hk => ?_
    simp only [fSet, fOp, fLst, fVar, List.getElem?_cons_zero, List.getElem?_cons_succ]
    refine ⟨_, rfl, ?_⟩
    dsimp only [List.set_cons_succ, List.set_cons_zero, List.nil_append]
    refine cons_eq (.non) (fun Kc hK => ?_) ?_
    · walk_at "row"
      exact hK
    refine cons_eq (.int 5) (fun Kc hK => ?_) ?_
    · walk_at "row"
      exact hK
    refine cons_eq (.str "ab") (fun Kc hK => ?_) ?_
    · walk_at "row"
      exact hK
    refine cons_eq (.dct [(.str "a", .int 1)]) (fun Kc hK => ?_) ?_
    · walk_at "row"
      exact ⟨by decide, hK⟩
    refine cons_eq (.bl true) (fun Kc hK => ?_) ?_
    · walk_at "row"
      exact hK
    refine cons_eq (.tup xs) (fun Kc hK => ?_) ?_
    · walk_at "row"
      exact hK
    refine cons_eq (.lst ((zs.map D.str).take 29)) (fun Kc hK => ?_) ?_
    · walk_at "row"
      rw [show cutL (zs.map D.str) none (some 29) = (zs.map D.str).take 29 from cutL_take _ 29]; exact hK
    refine cons_eq (.lst (zs.map D.str)) (fun Kc hK => ?_) ?_
    · walk_at "row"
      exact hK
    refine cons_eq (.lst xs.reverse) (fun Kc hK => ?_) ?_
    · walk_at "row"
      exact hK
    refine cons_eq (.lst (xs ++ [.tup [.str "a"]])) (fun Kc hK => ?_) ?_
    · walk_at "row"
      exact ⟨by omega, hK⟩
    refine ⟨by rw [sizeLine_eq]; simp, ?_⟩
    refine ⟨by rw [sizeLine_eq]; simp, ?_⟩
    dsimp only [List.set_cons_succ, List.set_cons_zero]
    refine hk _ ?_; clear hk; clear nx
    refine seq_gen fun nx hk => ?_
    walk_at "row"
    refine ⟨rfl, .inl ⟨_, rfl, by simp, by simp⟩, fun d hd => ?_, fun _ z => z.elim⟩
    have hzs : ∀ y ∈ zs.map D.str, SmD y ∧ okV y := fun y hy => by
      obtain ⟨z, hz', rfl⟩ := List.mem_map.mp hy
      exact sm_name (hz z hz')
    have hs : ∀ n, n ≤ 60 → NeV n c → NeV (n + 31) d := fun n hn hc => by
      obtain ⟨hl, hall⟩ := hc.it xs hx
      have more : ∀ x, SmD x ∧ okV x → NeV (n + 31) (.lst (xs ++ [x])) := fun x hx => (NeV.seq (fun y hy => by
        rcases List.mem_append.mp hy with q | q
        · exact hall y q
        · rw [List.mem_singleton.mp q]; exact hx) (by rw [List.length_append]; simp; omega) (by omega)).1
      have := pick_of hd
      simp only [List.cons_append, List.nil_append, List.mem_cons, List.not_mem_nil, or_false] at this
      rcases this with e | e | e | e | e | e | e | e | e | e | e | e | e | e | e | e
      · subst e
        exact (NeV.seq (fun y hy => by
          rcases List.mem_append.mp hy with q | q
          · exact hall y q
          · exact hall y ((cutL_sub xs none (some 1)).subset q)) (by
            rw [List.length_append]
            have : (cutL xs none (some ((1 : Nat) : Int))).length ≤ 1 := by rw [cutL_take, List.length_take]; omega
            have : (cutL xs none (some 1)).length ≤ 1 := this
            omega) (by omega)).1
      · subst e; exact more _ ⟨⟨rfl, by decide +kernel, by decide +kernel, by decide +kernel⟩, rfl, (fun z e => by cases e; decide), fun _ e => nomatch e⟩
      · subst e; exact more _ ⟨⟨rfl, by decide +kernel, by decide +kernel, by decide +kernel⟩, rfl, (fun z e => by cases e; decide), fun _ e => nomatch e⟩
      · subst e; exact more _ ⟨⟨rfl, by decide +kernel, by decide +kernel, by decide +kernel⟩, rfl, (fun z e => by cases e; decide), fun _ e => nomatch e⟩
      · subst e; exact more _ ⟨⟨rfl, by decide +kernel, by decide +kernel, by decide +kernel⟩, rfl, (fun z e => nomatch e), fun _ e => nomatch e⟩
      · subst e; exact more _ ⟨⟨rfl, by decide +kernel, by decide +kernel, by decide +kernel⟩, rfl, (fun z e => nomatch e), fun _ e => nomatch e⟩
      · subst e; exact ⟨rfl, (SmD.mk rfl (by decide +kernel) (by decide +kernel) (by decide +kernel)).re, fun ys e => nomatch e⟩
      · subst e; exact ⟨rfl, (SmD.mk rfl (by decide +kernel) (by decide +kernel) (by decide +kernel)).re, fun ys e => nomatch e⟩
      · subst e; exact ⟨rfl, (SmD.mk rfl (by decide +kernel) (by decide +kernel) (by decide +kernel)).re, fun ys e => nomatch e⟩
      · subst e; exact ⟨rfl, (SmD.mk rfl (by decide +kernel) (by decide +kernel) (by decide +kernel)).re, fun ys e => nomatch e⟩
      · subst e; exact ⟨rfl, (SmD.mk rfl (by decide +kernel) (by decide +kernel) (by decide +kernel)).re, fun ys e => nomatch e⟩
      · subst e; exact (NeV.seq hall (by omega) (by omega)).2
      · subst e; exact (NeV.seq (fun y hy => hzs y (List.mem_of_mem_take hy)) (by rw [List.length_take, List.length_map]; omega) (by omega)).1
      · subst e; exact (NeV.seq hzs (by rw [List.length_map]; omega) (by omega)).1
      · subst e; exact (NeV.seq (fun y hy => hall y (List.mem_reverse.mp hy)) (by rw [List.length_reverse]; omega) (by omega)).1
      · subst e; exact more _ ⟨⟨rfl, by decide +kernel, by decide +kernel, by decide +kernel⟩, rfl, (fun z e => nomatch e), fun ys e y hy => by
          cases e
          rw [List.mem_singleton.mp hy]; rfl⟩
    refine ⟨_, 2, rfl, rfl, ?_⟩
    refine hk _ ?_; clear hk; clear nx
    refine ⟨_, rfl, rfl, ?_⟩
    walk_at "row"
    exact fin _ ⟨a, b, d, rfl, ha, hb, hs⟩
  rw [e2]
  rcases hvx with rfl | rfl
  all_goals exact go
theorem ok__law_apart_right (Y : BY mg) (M_Task : MkI G P w K mg base "Task" 3 m_Task___init__ 0 []) (D_Task___eq__ : Mt G P w K mg base 0 "__eq__" 1 false m_Task___eq__ []) (Ne_Task : ∀ C ns, G.ct 0 = some (C, ns) → NeB K C) (F : FnP K "_law_apart_right" 30 f fd) : FnG P w K mg base 5 f fd ["_law_draw", "_law_made", "_law_parts"] (spD G K false 3 m__law_apart_right) := by
  refine fn_D (k := 4) (ps := ["_law_draw", "_law_made", "_law_parts"]) F sc__law_apart_right fun cdv A outer s H E t0 ds hr gd hp hl tk => ⟨_, _, (b_cons (s_unp (g_tup (n := 3) rfl (gs_cons (g_name 3 sc__law_apart_right.nd) (gs_cons (g_name 4 sc__law_apart_right.nd) (gs_cons (g_name 5 sc__law_apart_right.nd) gs_nil)))) (e_var 2))
    (b_cons (s_set 6 (e_sl (e_fz (e_lc (own := [("_law_one", 7)]) rfl sc__law_apart_right.nd (i_all (e_fz (e_lst (a_cons e_str (a_cons e_str (a_cons e_str a_nil)))))) (BlkOk.mk (N := ["_law_draw", "_law_made", "_law_parts", "_law_days", "_law_pay", "_law_wants", "_law_fresh", "_law_one", "_law_others", "_law_near"]) (sc := defScope (top 30)) rfl (by decide +kernel) (by decide +kernel) (by decide +kernel) (by decide +kernel)) (fun _ _ _ _ _ => (g_name 7 sc__law_apart_right.nd)) (fun _ _ _ _ _ => (ts_one (t_cmp (op_notInA (u1 hr)) s_in (e_var 7) (e_var 5)))) (fun _ _ _ _ _ => (e_var 7)))) o_none (o_some e_int)) sc__law_apart_right.nd)
    (b_cons (s_setO 8 (e_lst (a_cons (e_tup (a_cons (e_op op_addA s_addA (e_op op_mod s_mod (e_var 3) e_int) e_int) (a_cons (e_var 4) (a_cons (e_var 5) a_nil)))) (a_cons (e_tup (a_cons (e_var 3) (a_cons (e_op op_mod s_mod (e_op op_addA s_addA (e_var 4) e_int) e_int) (a_cons (e_var 5) a_nil)))) (a_cons (e_tup (a_cons (e_var 3) (a_cons (e_var 4) (a_cons (e_fz (e_lstA rfl (e_sl (e_var 5) (o_some e_int) o_none) Y.b_list)) a_nil)))) a_nil)))) sc__law_apart_right.nd)
    (b_cons (s_expr (e_append 8 (a_cons (e_tup (a_cons (e_var 3) (a_cons (e_var 4) (a_cons (e_op op_addA s_addA (e_fz (e_lstA rfl (e_sl (e_var 5) o_none (o_some e_int)) Y.b_list)) (e_var 6)) a_nil)))) a_nil)))
    (b_still 8 (b_cons (s_forZ (passes_of rfl) rfl (i_all (e_var 8)) (g_name 9 sc__law_apart_right.nd) (b_one (s_if (t_cmp (op_neD (u64 hr)) s_ne (e_eqO (m := m_Task___eq__) D_Task___eq__ hr gd (by decide) (e_var 1) (e_make (m := m_Task___init__) M_Task hr gd (by decide) (lets0 fun _ z => z) (a_cons (e_ix (u1 hr) (e_var 9) e_int) (a_cons (e_ix (u1 hr) (e_var 9) e_int) (a_cons (e_ix (u1 hr) (e_var 9) e_int) a_nil))))) (e_and (e_cmp (op_eqD (u64 hr)) s_eq (e_sl (e_var 9) o_none (o_some e_int)) (e_sl (e_var 2) o_none (o_some e_int))) (e_one (e_cmp (op_eqD (u64 hr)) s_eq (e_fz (e_sorted rfl (e_ix (u1 hr) (e_var 9) e_int) Y.b_sorted)) (e_sorted rfl (e_var 5) Y.b_sorted))))) (b_one (s_ret e_bl)) b_nil)))
    (b_one (s_ret (e_and (e_neY (m := m_Task___eq__) D_Task___eq__ Ne_Task hr gd (by decide) (e_var 1) (e_var 2)) (e_and (e_neY (m := m_Task___eq__) D_Task___eq__ Ne_Task hr gd (by decide) (e_var 1) e_non) (e_one (e_neY (m := m_Task___eq__) D_Task___eq__ Ne_Task hr gd (by decide) (e_var 1) (e_var 3))))))))))))), by decide, ?_⟩
  obtain ⟨e, w, c, ns, rfl, hc, T, hln⟩ := hp
  refine seq_gen fun nx hk => ?_
  walk_at "row"
  refine hk _ ?_; clear hk; clear nx
  refine seq_gen fun nx hk => ?_
  walk_at "row"
  refine ⟨noOwn_nil (by simp), ?_⟩
  refine lcL_fun (gFs ns) _ (fun x hx Kp hkp => ?_) ?_
  · obtain ⟨z, hz, rfl⟩ := mem_map_str (ns := qqq) hx
    rcases hc with rfl | rfl
    all_goals
      walk_at "row"
      rw [memF_strs]
      refine ⟨⟨rfl, flat_strs _⟩, ?_⟩
      by_cases h : z ∈ ns
      · rw [show gFs ns (.str z) = none from if_pos h] at hkp
        rw [decide_eq_true h]; exact hkp
      · rw [show gFs ns (.str z) = some (.str z) from if_neg h] at hkp
        rw [decide_eq_false h]; exact hkp
  rw [show ([.str "q", .str "qq", .str "qqq"] : List D) = qqq.map D.str from rfl, gFs_map]
  obtain ⟨fs, hfs, hfl, hfn, hfd⟩ : ∃ fs : List Str, cutL ((qqq.filter fun z => !decide (z ∈ ns)).map D.str) none (some 1) = fs.map D.str ∧ (∀ z ∈ fs, LN z) ∧ (∀ z ∈ fs, z ∉ ns) ∧ fs.length ≤ 1 := by
    refine ⟨(qqq.filter fun z => !decide (z ∈ ns)).take 1, ?_, fun z hz => ?_, fun z hz => ?_, by rw [List.length_take]; omega⟩
    · show cutL _ none (some ((1 : Nat) : Int)) = _
      rw [cutL_take, ← List.map_take]
    · exact qqq_ln z (List.mem_filter.mp (List.mem_of_mem_take hz)).1
    · have := (List.mem_filter.mp (List.mem_of_mem_take hz)).2
      simpa using this
  rw [hfs]
  refine hk _ ?_; clear hk; clear nx
  have hl30 := T.ln
  have hN1 : NearP (.tup [.int (e % 100 + 1), .int w, c]) := ⟨_, _, c, ns, rfl, hc, ⟨by have := T.e1; omega, by omega, T.w1, T.w2, T.nm, T.nd, T.ln⟩, hln⟩
  have hN2 : NearP (.tup [.int e, .int ((w + 1) % 101), c]) := ⟨_, _, c, ns, rfl, hc, ⟨T.e1, T.e2, by omega, by omega, T.nm, T.nd, T.ln⟩, hln⟩
  have hN3 : NearP (.tup [.int e, .int w, .lst ((ns.drop 1).map D.str)]) := ⟨_, _, _, ns.drop 1, rfl, .inl rfl, ⟨T.e1, T.e2, T.w1, T.w2, fun z hz => T.nm z (List.mem_of_mem_drop hz), (List.drop_sublist 1 ns).nodup T.nd, by rw [List.length_drop]; omega⟩, fun z hz => hln z (List.mem_of_mem_drop hz)⟩
  have hN4 : NearP (.tup [.int e, .int w, .lst ((ns.take 28 ++ fs).map D.str)]) := by
    have hmem : ∀ z ∈ ns.take 28 ++ fs, LN z := fun z hz => by
      rcases List.mem_append.mp hz with q | q
      · exact hln z (List.mem_of_mem_take q)
      · exact hfl z q
    refine ⟨_, _, _, ns.take 28 ++ fs, rfl, .inl rfl, ⟨T.e1, T.e2, T.w1, T.w2, fun z hz => (hmem z hz).ok, ?_, by rw [List.length_append, List.length_take]; omega⟩, hmem⟩
    refine List.nodup_append.mpr ⟨(List.take_sublist 28 ns).nodup T.nd, ?_, fun a ha b hb e => ?_⟩
    · match fs, hfd with
      | [], _ => exact .nil
      | [x], _ => simp
    · subst e; exact hfn a hb (List.mem_of_mem_take ha)
  have hd1 : cutL (ns.map D.str) (some 1) none = (ns.drop 1).map D.str := by
    show cutL _ (some ((1 : Nat) : Int)) none = _
    rw [cutL_drop, ← List.map_drop]
  have hd2 : cutL (ns.map D.str) none (some 28) = (ns.take 28).map D.str := by
    show cutL _ none (some ((28 : Nat) : Int)) = _
    rw [cutL_take, ← List.map_take]
  rcases hc with rfl | rfl
  all_goals
    refine seq_gen fun nx hk => ?_
    walk_at "row"
    rw [hd1]
    refine hk _ ?_; clear hk; clear nx
    refine seq_gen fun nx hk => ?_
    walk_at "row"
    rw [hd2]
    refine ⟨by rw [List.length_map, List.length_map, List.length_take]; omega, by simp, ?_⟩
    rw [← List.map_append]
    refine hk _ ?_; clear hk; clear nx
    refine ⟨_, rfl, rfl, ?_⟩
    dsimp only [WL.Own.d, List.set_cons_succ, List.set_cons_zero]
    refine seq_gen fun nx hk => ?_
    walk_at "row"
    refine forL_inv (fun ρ => ∃ s9 : Option WL.Slot, ρ = [some (WL.Slot.imm (.tok 0)), some (WL.Slot.imm (tI ⟨e, w, srt ns⟩)), some (WL.Slot.imm (.tup [.int e, .int w, _])), some (WL.Slot.imm (.int e)), some (WL.Slot.imm (.int w)), some (WL.Slot.imm _), some (WL.Slot.imm (.lst (fs.map D.str))), none, some (WL.Slot.imm (.lst [_, _, _, _])), s9]) (fun ρ h => ?_) _ _ ⟨_, rfl⟩ fun x hx ρ nx2 h hk2 => ?_
    · obtain ⟨s9, rfl⟩ := h
      refine hk _ ?_; clear hk; clear nx
      walk_at "row"
      have hy : ∀ v : D, (tyN v).isSome = true → m_Task___eq__.pre [tI ⟨e, w, srt ns⟩, v] := fun v hv => ⟨_, v, rfl, fun z hz => hln z (mem_srt.mp hz), .inl hv⟩
      refine ⟨⟨_, rfl⟩, rfl, hy _ rfl, fun d hd => ⟨false, teqy_post rfl hd, ?_⟩⟩
      rw [if_pos (by decide)]
      refine ⟨⟨_, rfl⟩, rfl, hy _ rfl, fun d hd => ⟨false, teqy_post rfl hd, ?_⟩⟩
      rw [if_pos (by decide)]
      exact ⟨⟨_, rfl⟩, rfl, hy _ rfl, fun d hd => ⟨false, teqy_post rfl hd, rfl⟩⟩
    obtain ⟨s9, rfl⟩ := h
    clear hk
    have hx : NearP x := by
      simp only [List.mem_cons, List.not_mem_nil, or_false] at hx
      rcases hx with rfl | rfl | rfl | rfl
      · exact hN1
      · exact hN2
      · exact hN3
      · exact hN4
    obtain ⟨e', w', c', ns', rfl, hc', T', hln'⟩ := hx
    have hwn := wnt_names hc' hln' (by have := T'.ln; omega)
    have hl' := T'.ln
    have ha0 : atI [D.int e', D.int w', c'] 0 = some (.int e') := rfl
    have ha1 : atI [D.int e', D.int w', c'] 1 = some (.int w') := rfl
    have ha2 : atI [D.int e', D.int w', c'] 2 = some c' := rfl
    walk_at "row"
    unfold WL.fEqO
    walk_at "row"
    rw [ha2]
    refine ⟨rfl, ⟨_, _, _, rfl, rfl, rfl, hwn⟩, fun d hd => ?_, fun e he => ?_⟩
    case refine_2 =>
      obtain ⟨w2, h2, _⟩ := mk_exc he
      exact (badP_good h2 ⟨⟨e', rfl, T'.e1, T'.e2⟩, ⟨w', rfl, T'.w1, T'.w2⟩, ns', by rcases hc' with rfl | rfl <;> simp [SqW], T'.nm, T'.nd, T'.ln⟩).elim
    obtain ⟨e2, w2, ms, q1, q2, hs2, T2, rfl⟩ := mk_good hd
    obtain rfl := D.int.inj q1
    obtain rfl := D.int.inj q2
    obtain rfl : ns' = ms := hs2.inj (by rcases hc' with rfl | rfl <;> simp [SqW]) |>.symm
    refine ⟨⟨_, rfl⟩, ⟨_, rfl⟩, ⟨_, _, rfl, fun z hz => hln z (mem_srt.mp hz), .inr ⟨_, rfl, fun z hz => hln' z (mem_srt.mp hz)⟩⟩, fun d hd => ?_⟩
    obtain rfl := teq_post hd
    have cut2 : ∀ x y z : D, cutL [x, y, z] none (some 2) = [x, y] := fun x y z => by
      show cutL _ none (some ((2 : Nat) : Int)) = _
      rw [cutL_take]; rfl
    rw [cut2, cut2, pyEq_two]
    refine ⟨⟨rfl, rfl, by simp [WL.deeps, WL.deep], by simp [WL.deeps, WL.deep]⟩, ?_⟩
    have hdone : ∀ b : Bool, b = tEq ⟨e, w, srt ns⟩ ⟨e', w', srt ns'⟩ → (!pyEq (.bl (tEq ⟨e, w, srt ns⟩ ⟨e', w', srt ns'⟩)) (.bl b)) = false := fun b h => by
      rw [pyEq_bb, h]; simp
    have hte : tEq ⟨e, w, srt ns⟩ ⟨e', w', srt ns'⟩ = (decide (e = e') && decide (w = w') && decide (srt ns = srt ns')) := rfl
    by_cases q : e' = e ∧ w' = w
    · rw [if_pos (by rw [decide_eq_true q.1, decide_eq_true q.2]; rfl)]
      dsimp only
      refine opSrt_of (ss := ns') (by rcases hc' with rfl | rfl <;> rfl) (by omega) ?_
      refine opSrt_of (ss := ns) rfl (by omega) ?_
      refine ⟨⟨plain_l0 fun z hz => hln' z (mem_srt.mp hz), plain_l0 fun z hz => hln z (mem_srt.mp hz), by have := deeps_str (srt ns'); simp only [WL.deep]; omega, by have := deeps_str (srt ns); simp only [WL.deep]; omega⟩, ⟨rfl, by simp [WL.deep]⟩, ?_⟩
      rw [pyEq_ll, if_neg (by
        rw [hdone _ (by
          rw [hte, decide_eq_true q.1.symm, decide_eq_true q.2.symm, Bool.true_and, Bool.true_and]
          exact decide_eq_decide.mpr ⟨fun h => h.symm, fun h => h.symm⟩)]
        decide)]
      exact hk2 _ ⟨_, rfl⟩
    · rw [if_neg (by simpa using q)]
      refine ⟨⟨rfl, by simp [WL.deep]⟩, ?_⟩
      rw [if_neg (by
        rw [hdone false (by
          rw [hte]
          by_cases q1 : e = e'
          · have q2 : ¬ w = w' := fun h => q ⟨q1.symm, h.symm⟩
            rw [decide_eq_false q2, Bool.and_false, Bool.false_and]
          · rw [decide_eq_false q1]; rfl)]
        decide)]
      exact hk2 _ ⟨_, rfl⟩
theorem ok__law_refused (Y : BY mg) (LG : LamG G (TTK K)) (CB : CaughtB G K mg "LevelError") {fC : Addr} {fdC : FuncData} (D__law_caught : FnP K "_law_caught" 24 fC fdC) (g__law_caught : mg "_law_caught" = some (.ref fC)) (b__law_caught : Binds K fdC ["_law_work"] []) (MK0 : Makes base mg (TTK K) fd.code (mkq "_law_refused" (defScope (top 29)))) (M_Task : MkI G P w K mg base "Task" 3 m_Task___init__ 0 []) (MC_Task_0_needs_worth_effort : MkIK G P w K mg base "Task" 3 m_Task___init__ 0 0 ["needs", "worth", "effort"] (fun us ws => permIx [2, 1, 0] us ws ++ [])) (ErT : ErTb G K mg errNs) (E_NoT : NoE K mg errNs) (F : FnP K "_law_refused" 29 f fd) : FnG P w K mg base 7 f fd ["_law_parts", "_law_due_here"] (spD G K false 2 m__law_refused) := by
  refine fn_DC (k := 6) (ps := ["_law_parts", "_law_due_here"]) F sc__law_refused fun cdv hcd A outer s H E t0 ds hr gd hp hl tk => have MK : Makes base mg (TTK K) cdv (mkq "_law_refused" (defScope (top 29))) := hcd ▸ MK0; ⟨_, _, (b_cons (s_unp (g_tup (n := 3) rfl (gs_cons (g_name 2 sc__law_refused.nd) (gs_cons (g_name 3 sc__law_refused.nd) (gs_cons (g_name 4 sc__law_refused.nd) gs_nil)))) (e_var 0))
    (b_cons (s_setO 5 (e_lst (a_cons (e_lam (T := TTK K) (k := 4) LG MK (fun A outer s H E f c2 xd t0 gd hr tk => (e_n0 (e_xd (xd := xd) rfl (e_make (m := m_Task___init__) M_Task hr gd (by decide) (lets tk) (a_cons (e_var 2) (a_cons (e_var 3) (a_cons (e_var 4) a_nil))))))) (by rfl)) a_nil)) sc__law_refused.nd)
    (b_cons (s_expr (e_append 5 (a_cons (e_lam (T := TTK K) (k := 4) LG MK (fun A outer s H E f c2 xd t0 gd hr tk => (e_n0 (e_xdK (xd := xd) rfl (e_makeK0 (m := m_Task___init__) MC_Task_0_needs_worth_effort hr gd (by decide) (lets tk) (k_cons (e_var 4) (k_cons (e_var 3) (k_cons (e_var 2) k_nil))))))) (by rfl)) a_nil)))
    (b_still 5 (b_cons (s_forZ (passes_of rfl) rfl (i_all (e_var 5)) (g_name 6 sc__law_refused.nd) (b_cons (s_set 7 (e_caughtV (k := 4) (a := "_law_work") (ch := "_law_caught_here") (er := "_law_error") (b := "LevelError") (sg := defScope (top 24)) (pg := defArgs (top 24)) CB (show FnP K "_law_caught" 24 _ _ from D__law_caught) g__law_caught b__law_caught sc__law_caught (hr.mono (by decide)) gd (e_var 6)) sc__law_refused.nd)
    (b_one (s_if (t_w (w_or (t_not (t_val (e_isE 1 ErT (e_var 7) Y.b_isinstance))) (w_or (t_val (e_isEs ErT E_NoT (e_var 7) Y.b_isinstance (pa_eC 2 ErT (pa_eC 3 ErT pa_e0)) (by decide))) (w_or1 (t_cmp (op_neD (u64 hr)) s_ne (e_reprA (e_xf (n := "part") ErT (e_var 7)) gd (u64 hr) Y.b_repr) (e_reprA (e_var 1) gd (u64 hr) Y.b_repr)))))) (b_one (s_ret e_bl)) b_nil))))
    (b_one (s_ret e_bl))))))), by decide, ?_⟩
  obtain ⟨a, b, c, w, rfl, ha, hb, hc, hbad⟩ := hp
  have hw := hbad.sm.re
  have hpre : m_Task___init__.pre [a, b, c] := ⟨a, b, c, rfl, ha.ty, hb.ty, hc.wnt.up (by decide)⟩
  refine seq_gen fun nx hk => ?_
  walk_at "row"
  refine hk _ ?_; clear hk; clear nx
  refine seq_gen fun nx hk => ?_
  walk_at "row"
  intro j1 J1
  refine hk _ ?_; clear hk; clear nx
  refine seq_gen fun nx hk => ?_
  walk_at "row"
  intro j2 J2
  refine ⟨by omega, ?_⟩
  refine hk _ ?_; clear hk; clear nx
  refine ⟨_, rfl, rfl, ?_⟩
  dsimp only [WL.Own.d, List.set_cons_succ, List.set_cons_zero]
  refine seq_gen fun nx hk => ?_
  walk_at "row"
  refine forL_inv (fun ρ => ∃ s6 s7 : Option WL.Slot, ρ = [some (.imm (.tup [a, b, c])), some (.imm (.str w)), some (.imm a), some (.imm b), some (.imm c), some (.imm (.lst [j1, j2])), s6, s7]) (fun ρ h => ?_) _ _ ⟨_, _, rfl⟩ fun x hx ρ nx2 h hk2 => ?_
  · obtain ⟨s6, s7, rfl⟩ := h
    refine hk _ ?_; clear hk; clear nx
    walk_at "row"
    rfl
  obtain ⟨s6, s7, rfl⟩ := h
  clear hk
  have hx : x = j1 ∨ x = j2 := by simpa using hx
  refine seq_gen fun nx hk => ?_
  have fin : nx [some (.imm (.tup [a, b, c])), some (.imm (.str w)), some (.imm a), some (.imm b), some (.imm c), some (.imm (.lst [j1, j2])), some (.imm x), some (.imm (.exc 1 [.str w]))] := by
    refine hk _ ?_
    clear hk
    walk_at "row"
    exact ⟨rfl, hw.ne (hk2 _ ⟨_, _, rfl⟩)⟩
  walk_at "row"
  rcases hx with rfl | rfl
  · refine ⟨_, J1, ?_⟩
    walk_at "row"
    refine ⟨rfl, hpre, fun d hd => ?_, fun e he => ?_⟩
    · exact (badP_good hbad (mk_goodP hd)).elim
    · obtain ⟨w2, h2, rfl⟩ := mk_exc he
      obtain rfl := badP_uniq h2 hbad
      exact fin
  · refine ⟨_, J2, ?_⟩
    walk_at "row"
    rw [show permIx [2, 1, 0] [] [c, b, a] = [a, b, c] from rfl]
    refine ⟨hpre, fun d hd => ?_, fun e he => ?_⟩
    · exact (badP_good hbad (mk_goodP hd)).elim
    · obtain ⟨w2, h2, rfl⟩ := mk_exc he
      obtain rfl := badP_uniq h2 hbad
      exact fin
end
theorem facts {P : Program} {w : World} {K : PySem.W.Frag} {h : Heap} {mg : Str → Option Value} {f : Addr} (X : K.In h) (Gn : h.Ns mainGlobals mg) (hfa : mg ("law" : Str) = some (.ref f)) (cx : SaysZ fx fp fa fn tf h K) :
    ∃ fd : FuncData, (∀ (s : Shared) (v : Value), BindsTo s fd ⟨[v], []⟩ [("_law_script", v)]) ∧ ∀ base : Heap, K.In base → base.Ns mainGlobals mg → (∀ r ∈ mkrsOf K mks, LamX.TabB base mg r.1 r.2.1) → FnG P w K mg base 8 f fd ["_law_script"] (spLaw (TTK K) K) := by
  have cx := cx.y
  have c := cx.d
  have Y : BY mg := { b_all := He.free_ok X Gn (c.fact 19 (f := .free "all") rfl), b_bool := He.free_ok X Gn (c.fact 20 (f := .free "bool") rfl), b_enumerate := He.free_ok X Gn (c.fact 21 (f := .free "enumerate") rfl), b_int := He.free_ok X Gn (c.fact 22 (f := .free "int") rfl), b_isinstance := He.free_ok X Gn (c.fact 23 (f := .free "isinstance") rfl), b_len := He.free_ok X Gn (c.fact 24 (f := .free "len") rfl), b_list := He.free_ok X Gn (c.fact 25 (f := .free "list") rfl), b_min := He.free_ok X Gn (c.fact 26 (f := .free "min") rfl), b_range := He.free_ok X Gn (c.fact 27 (f := .free "range") rfl), b_repr := He.free_ok X Gn (c.fact 28 (f := .free "repr") rfl), b_set := He.free_ok X Gn (c.fact 29 (f := .free "set") rfl), b_sorted := He.free_ok X Gn (c.fact 30 (f := .free "sorted") rfl), b_str := He.free_ok X Gn (c.fact 31 (f := .free "str") rfl), b_tuple := He.free_ok X Gn (c.fact 32 (f := .free "tuple") rfl), c_LETTERS := (let ⟨t, e⟩ := He.str_ok X Gn (c.fact 33 (f := .str "LETTERS" "abcdefghijklmnopqrstuvwxyz") rfl); ⟨_, e, t, rfl⟩), c_LONGEST_NAME := (let ⟨t, e⟩ := He.int_ok X Gn (c.fact 34 (f := .int "LONGEST_NAME" 8) rfl); ⟨_, e, t, rfl⟩), c_MOST_EFFORT := (let ⟨t, e⟩ := He.int_ok X Gn (c.fact 35 (f := .int "MOST_EFFORT" 100) rfl); ⟨_, e, t, rfl⟩), c_MOST_TASKS := (let ⟨t, e⟩ := He.int_ok X Gn (c.fact 36 (f := .int "MOST_TASKS" 30) rfl); ⟨_, e, t, rfl⟩), c_MOST_WORTH := (let ⟨t, e⟩ := He.int_ok X Gn (c.fact 37 (f := .int "MOST_WORTH" 100) rfl); ⟨_, e, t, rfl⟩) }
  obtain ⟨fd_is_name, D_is_name⟩ := c.def_ 0 (d := d_is_name) rfl
  have g_is_name := He.glo_ok X Gn (c.fact 0 (f := .glo "is_name") rfl)
  obtain ⟨fd_is_number, D_is_number⟩ := c.def_ 1 (d := d_is_number) rfl
  have g_is_number := He.glo_ok X Gn (c.fact 1 (f := .glo "is_number") rfl)
  obtain ⟨fd_is_list, D_is_list⟩ := c.def_ 2 (d := d_is_list) rfl
  have g_is_list := He.glo_ok X Gn (c.fact 2 (f := .glo "is_list") rfl)
  obtain ⟨fd__law_begun, D__law_begun⟩ := c.def_ 3 (d := d__law_begun) rfl
  have g__law_begun := He.glo_ok X Gn (c.fact 3 (f := .glo "_law_begun") rfl)
  obtain ⟨fd__law_blend, D__law_blend⟩ := c.def_ 4 (d := d__law_blend) rfl
  have g__law_blend := He.glo_ok X Gn (c.fact 4 (f := .glo "_law_blend") rfl)
  obtain ⟨fd__law_caught, D__law_caught⟩ := c.def_ 5 (d := d__law_caught) rfl
  have g__law_caught := He.glo_ok X Gn (c.fact 5 (f := .glo "_law_caught") rfl)
  obtain ⟨fd__law_is_number, D__law_is_number⟩ := c.def_ 6 (d := d__law_is_number) rfl
  have g__law_is_number := He.glo_ok X Gn (c.fact 6 (f := .glo "_law_is_number") rfl)
  obtain ⟨fd__law_is_word, D__law_is_word⟩ := c.def_ 7 (d := d__law_is_word) rfl
  have g__law_is_word := He.glo_ok X Gn (c.fact 7 (f := .glo "_law_is_word") rfl)
  obtain ⟨fd_are_names, D_are_names⟩ := c.def_ 8 (d := d_are_names) rfl
  have g_are_names := He.glo_ok X Gn (c.fact 8 (f := .glo "are_names") rfl)
  obtain ⟨fd__law_take, D__law_take⟩ := c.def_ 9 (d := d__law_take) rfl
  have g__law_take := He.glo_ok X Gn (c.fact 9 (f := .glo "_law_take") rfl)
  obtain ⟨fd__law_due, D__law_due⟩ := c.def_ 10 (d := d__law_due) rfl
  have g__law_due := He.glo_ok X Gn (c.fact 10 (f := .glo "_law_due") rfl)
  obtain ⟨fd__law_pick, D__law_pick⟩ := c.def_ 11 (d := d__law_pick) rfl
  have g__law_pick := He.glo_ok X Gn (c.fact 11 (f := .glo "_law_pick") rfl)
  obtain ⟨fd__law_shuffled, D__law_shuffled⟩ := c.def_ 12 (d := d__law_shuffled) rfl
  have g__law_shuffled := He.glo_ok X Gn (c.fact 12 (f := .glo "_law_shuffled") rfl)
  obtain ⟨fd__law_drawn_names, D__law_drawn_names⟩ := c.def_ 13 (d := d__law_drawn_names) rfl
  have g__law_drawn_names := He.glo_ok X Gn (c.fact 13 (f := .glo "_law_drawn_names") rfl)
  obtain ⟨fd__law_numbers, D__law_numbers⟩ := c.def_ 14 (d := d__law_numbers) rfl
  have g__law_numbers := He.glo_ok X Gn (c.fact 14 (f := .glo "_law_numbers") rfl)
  obtain ⟨fd__law_bent, D__law_bent⟩ := c.def_ 15 (d := d__law_bent) rfl
  have g__law_bent := He.glo_ok X Gn (c.fact 15 (f := .glo "_law_bent") rfl)
  obtain ⟨fd__law_apart_right, D__law_apart_right⟩ := c.def_ 16 (d := d__law_apart_right) rfl
  have g__law_apart_right := He.glo_ok X Gn (c.fact 16 (f := .glo "_law_apart_right") rfl)
  obtain ⟨fd__law_refused, D__law_refused⟩ := c.def_ 17 (d := d__law_refused) rfl
  have g__law_refused := He.glo_ok X Gn (c.fact 17 (f := .glo "_law_refused") rfl)
  obtain ⟨fd_law, D_law⟩ := c.def_ 18 (d := d_law) rfl
  have g_law := He.glo_ok X Gn (c.fact 18 (f := .glo "law") rfl)
  obtain ⟨fd_BadTask, D_BadTask⟩ := c.def_ 19 (d := d_BadTask) rfl
  have m_BadTask := He.meth_ok (c.fact 38 (f := .meth "BadTask" "__init__") rfl)
  obtain ⟨fd_BadBacklog, D_BadBacklog⟩ := c.def_ 20 (d := d_BadBacklog) rfl
  have m_BadBacklog := He.meth_ok (c.fact 39 (f := .meth "BadBacklog" "__init__") rfl)
  obtain ⟨fd_NoTask, D_NoTask⟩ := c.def_ 21 (d := d_NoTask) rfl
  have m_NoTask := He.meth_ok (c.fact 40 (f := .meth "NoTask" "__init__") rfl)
  obtain ⟨fd_Task___eq__, Df_Task___eq__⟩ := c.def_ 22 (d := d_Task___eq__) rfl
  have q_Task___eq__ := c.fact 41 (f := .meth "Task" "__eq__") rfl
  obtain ⟨fd_Task___init__, Df_Task___init__⟩ := c.def_ 23 (d := d_Task___init__) rfl
  have q_Task___init__ := c.fact 42 (f := .mkr "Task") rfl
  obtain ⟨fd_Task_effort, Df_Task_effort⟩ := cx.p 0 (q := (fun K => pga K "Task" "effort", d_Task_effort)) rfl
  have q_Task_effort : propB "Task" "effort" K = true := cx.x 2 rfl
  obtain ⟨fd_Task_worth, Df_Task_worth⟩ := cx.p 1 (q := (fun K => pga K "Task" "worth", d_Task_worth)) rfl
  have q_Task_worth : propB "Task" "worth" K = true := cx.x 3 rfl
  obtain ⟨fd_Task_needs, Df_Task_needs⟩ := cx.p 2 (q := (fun K => pga K "Task" "needs", d_Task_needs)) rfl
  have q_Task_needs : propB "Task" "needs" K = true := cx.x 4 rfl
  have e := hfa.symm.trans g_law
  cases e
  have b := FunD.bindsA (ps := ["_law_script"]) D_law fun _ _ _ _ _ _ us hl => match us, hl with | [_], _ => rfl
  refine ⟨fd_law, fun s v => b s [v] rfl, fun base _ _ TB => ?_⟩
  have ErT : ∀ a b c, ErTb (GD (TTK K) (ctOf K clsNs) (ecOf K errNs) a b c) K mg errNs := fun a b c => erTb_ok X Gn rfl (cx.x 0 rfl)
  have hcl : clTbB clsNs allFs K = true := cx.x 1 rfl
  have ClT : ∀ a b c, ClTb (GD (TTK K) (ctOf K clsNs) (ecOf K errNs) a b c) K mg clsNs allFs := fun a b c => clTb_ok X Gn rfl hcl
  have A_own_effort : ∀ a b c, AtOk (GD (TTK K) (ctOf K clsNs) (ecOf K errNs) a b c) K "own_effort" at_own_effort := fun a b c => (ClT a b c).at_ (by decide) fun cc ii e => by
    unfold at_own_effort at e
    split at e
    · rename_i h; subst h; cases e; exact ⟨_, _, rfl, rfl⟩
    · cases e
  have A_own_worth : ∀ a b c, AtOk (GD (TTK K) (ctOf K clsNs) (ecOf K errNs) a b c) K "own_worth" at_own_worth := fun a b c => (ClT a b c).at_ (by decide) fun cc ii e => by
    unfold at_own_worth at e
    split at e
    · rename_i h; subst h; cases e; exact ⟨_, _, rfl, rfl⟩
    · cases e
  have A_own_needs : ∀ a b c, AtOk (GD (TTK K) (ctOf K clsNs) (ecOf K errNs) a b c) K "own_needs" at_own_needs := fun a b c => (ClT a b c).at_ (by decide) fun cc ii e => by
    unfold at_own_needs at e
    split at e
    · rename_i h; subst h; cases e; exact ⟨_, _, rfl, rfl⟩
    · cases e
  have Ne_Task : ∀ a b c : Nat, ∀ C ns, (ctOf K clsNs) 0 = some (C, ns) → NeB K C := fun _ _ _ => mkNe (cs := clsNs) (x := "Task") rfl (cx.x 5 rfl)
  have gl_Task := clTb_gl X Gn hcl (c := 0) rfl
  have E_BadTask : MkE P w K mg base "BadTask" "part" := ⟨fun C hC => by
    obtain ⟨C2, h1, h2, _⟩ := (ErT 0 0 0).ec 1 "BadTask" (some "part") rfl
    have e1 := hC.symm.trans h1
    cases e1
    have e2 : some (He.ga K "BadTask", some ("part" : Str)) = some (C, some ("part" : Str)) := h2
    cases e2
    exact ⟨_, fd_BadTask, _, _, m_BadTask.at_, beq_iff_eq.mp m_BadTask.fn, ok_BadTask D_BadTask, D_BadTask.bindsN fun _ _ _ _ _ _ us hl => match us, hl with | [_, _], _ => rfl⟩⟩
  have E_BadBacklog : MkE P w K mg base "BadBacklog" "name" := ⟨fun C hC => by
    obtain ⟨C2, h1, h2, _⟩ := (ErT 0 0 0).ec 2 "BadBacklog" (some "name") rfl
    have e1 := hC.symm.trans h1
    cases e1
    have e2 : some (He.ga K "BadBacklog", some ("name" : Str)) = some (C, some ("name" : Str)) := h2
    cases e2
    exact ⟨_, fd_BadBacklog, _, _, m_BadBacklog.at_, beq_iff_eq.mp m_BadBacklog.fn, ok_BadBacklog D_BadBacklog, D_BadBacklog.bindsN fun _ _ _ _ _ _ us hl => match us, hl with | [_, _], _ => rfl⟩⟩
  have E_NoTask : MkE P w K mg base "NoTask" "name" := ⟨fun C hC => by
    obtain ⟨C2, h1, h2, _⟩ := (ErT 0 0 0).ec 3 "NoTask" (some "name") rfl
    have e1 := hC.symm.trans h1
    cases e1
    have e2 : some (He.ga K "NoTask", some ("name" : Str)) = some (C, some ("name" : Str)) := h2
    cases e2
    exact ⟨_, fd_NoTask, _, _, m_NoTask.at_, beq_iff_eq.mp m_NoTask.fn, ok_NoTask D_NoTask, D_NoTask.bindsN fun _ _ _ _ _ _ us hl => match us, hl with | [_, _], _ => rfl⟩⟩
  have bB : Binds K fd__law_blend ["_law_draw"] [] := D__law_blend.bindsN fun _ _ _ _ _ _ us hl => match us, hl with | [_], _ => rfl
  have okB : FnG P w K mg base 1 _ fd__law_blend ["_law_draw"] (spBlend (TTK K)) := ok__law_blend Y D__law_blend
  have okT : FnG P w K mg base 2 _ fd__law_take ["_law_draw", "_law_size"] (spTake (TTK K)) := ok__law_take Y okB g__law_blend D__law_blend.kp bB D__law_take
  have E_NoT : NoE K mg errNs := noE_of (ErT 0 0 0) rfl (cx.x 6 rfl)
  have LG : ∀ a b c, LamG (GD (TTK K) (ctOf K clsNs) (ecOf K errNs) a b c) (TTK K) := fun a b c => lamG_D
  have CB : ∀ a b c, CaughtB (GD (TTK K) (ctOf K clsNs) (ecOf K errNs) a b c) K mg "LevelError" := fun a b c => caughtB_of (ns := errNs) (cx.x 8 rfl) rfl (by
    obtain ⟨C, h1, h2, _⟩ := (ErT 0 0 0).ec 0 "LevelError" none rfl
    have e2 : some (He.ga K "LevelError", (none : Option Str)) = some (C, none) := h2
    cases e2
    exact h1)
  have b__law_caught : Binds K fd__law_caught ["_law_work"] [] := D__law_caught.bindsN fun _ _ _ _ _ _ us hl => match us, hl with | [_], _ => rfl
  have MK__law_refused : Makes base mg (TTK K) fd__law_refused.code (mkq "_law_refused" (defScope (top 29))) := makes_of (p := ("_law_refused", none)) D__law_refused (by decide +kernel) (cx.x 9 rfl) TB
  have O_is_name : ∀ a b c, FnG P w K mg base 1 _ fd_is_name ["value"] (spD (GD (TTK K) (ctOf K clsNs) (ecOf K errNs) a b c) K false 1 m_is_name) := fun a b c => ok_is_name Y  D_is_name
  have F_is_name : ∀ a b c, Fn (GD (TTK K) (ctOf K clsNs) (ecOf K errNs) a b c) P w K mg base "is_name" 1 false m_is_name [] := fun a b c => mkFn (ps := ["value"]) D_is_name (O_is_name a b c) g_is_name rfl (fun _ _ _ _ _ _ us hl => match us, hl with | [_], _ => rfl)
  have O_is_number : ∀ a b c, FnG P w K mg base 1 _ fd_is_number ["value"] (spD (GD (TTK K) (ctOf K clsNs) (ecOf K errNs) a b c) K false 1 m_is_number) := fun a b c => ok_is_number Y  D_is_number
  have F_is_number : ∀ a b c, Fn (GD (TTK K) (ctOf K clsNs) (ecOf K errNs) a b c) P w K mg base "is_number" 1 false m_is_number [] := fun a b c => mkFn (ps := ["value"]) D_is_number (O_is_number a b c) g_is_number rfl (fun _ _ _ _ _ _ us hl => match us, hl with | [_], _ => rfl)
  have O_is_list : ∀ a b c, FnG P w K mg base 1 _ fd_is_list ["value"] (spD (GD (TTK K) (ctOf K clsNs) (ecOf K errNs) a b c) K false 1 m_is_list) := fun a b c => ok_is_list Y  D_is_list
  have F_is_list : ∀ a b c, Fn (GD (TTK K) (ctOf K clsNs) (ecOf K errNs) a b c) P w K mg base "is_list" 1 false m_is_list [] := fun a b c => mkFn (ps := ["value"]) D_is_list (O_is_list a b c) g_is_list rfl (fun _ _ _ _ _ _ us hl => match us, hl with | [_], _ => rfl)
  have O_Task_effort : ∀ a b c, FnG P w K mg base 1 _ fd_Task_effort ["self"] (spD (GD (TTK K) (ctOf K clsNs) (ecOf K errNs) a b c) K false 1 m_Task_effort) := fun a b c => ok_Task_effort Y (A_own_effort a b c) Df_Task_effort
  have P_Task_effort : ∀ a b c, Pr (GD (TTK K) (ctOf K clsNs) (ecOf K errNs) a b c) P w K mg base 0 "effort" 1 false m_Task_effort := fun a b c => mkPr (ClT a b c) rfl gl_Task q_Task_effort Df_Task_effort (O_Task_effort a b c) (fun _ _ z => z) (fun _ _ _ _ _ _ us hl => match us, hl with | [_], _ => rfl)
  have O_Task_worth : ∀ a b c, FnG P w K mg base 1 _ fd_Task_worth ["self"] (spD (GD (TTK K) (ctOf K clsNs) (ecOf K errNs) a b c) K false 1 m_Task_worth) := fun a b c => ok_Task_worth Y (A_own_worth a b c) Df_Task_worth
  have P_Task_worth : ∀ a b c, Pr (GD (TTK K) (ctOf K clsNs) (ecOf K errNs) a b c) P w K mg base 0 "worth" 1 false m_Task_worth := fun a b c => mkPr (ClT a b c) rfl gl_Task q_Task_worth Df_Task_worth (O_Task_worth a b c) (fun _ _ z => z) (fun _ _ _ _ _ _ us hl => match us, hl with | [_], _ => rfl)
  have O_Task_needs : ∀ a b c, FnG P w K mg base 1 _ fd_Task_needs ["self"] (spD (GD (TTK K) (ctOf K clsNs) (ecOf K errNs) a b c) K false 1 m_Task_needs) := fun a b c => ok_Task_needs Y (A_own_needs a b c) Df_Task_needs
  have P_Task_needs : ∀ a b c, Pr (GD (TTK K) (ctOf K clsNs) (ecOf K errNs) a b c) P w K mg base 0 "needs" 1 false m_Task_needs := fun a b c => mkPr (ClT a b c) rfl gl_Task q_Task_needs Df_Task_needs (O_Task_needs a b c) (fun _ _ z => z) (fun _ _ _ _ _ _ us hl => match us, hl with | [_], _ => rfl)
  have O_Task___eq__ : ∀ a b c, FnG P w K mg base 1 _ fd_Task___eq__ ["self", "other"] (spD (GD (TTK K) (ctOf K clsNs) (ecOf K errNs) a b c) K false 2 m_Task___eq__) := fun a b c => ok_Task___eq__ Y (ClT a b c) (A_own_effort a b c) (A_own_worth a b c) (A_own_needs a b c) Df_Task___eq__
  have D_Task___eq__ : ∀ a b c, Mt (GD (TTK K) (ctOf K clsNs) (ecOf K errNs) a b c) P w K mg base 0 "__eq__" 1 false m_Task___eq__ [] := fun a b c => mkMt (ps := ["self", "other"]) (ClT a b c) rfl gl_Task (by decide) q_Task___eq__ Df_Task___eq__ (O_Task___eq__ a b c) rfl (fun _ _ _ _ _ _ us hl => match us, hl with | [_, _], _ => rfl)
  have F__law_begun : Fn (G0 (TTK K)) P w K mg base "_law_begun" 1 true mBegun [] := mkFn (ps := ["_law_script"]) D__law_begun (ok__law_begun Y D__law_begun) g__law_begun rfl (fun _ _ _ _ _ _ us hl => match us, hl with | [_], _ => rfl)
  have O__law_is_number : ∀ a b c, FnG P w K mg base 1 _ fd__law_is_number ["_law_item"] (spD (GD (TTK K) (ctOf K clsNs) (ecOf K errNs) a b c) K false 1 m__law_is_number) := fun a b c => ok__law_is_number Y  D__law_is_number
  have F__law_is_number : ∀ a b c, Fn (GD (TTK K) (ctOf K clsNs) (ecOf K errNs) a b c) P w K mg base "_law_is_number" 1 false m__law_is_number [] := fun a b c => mkFn (ps := ["_law_item"]) D__law_is_number (O__law_is_number a b c) g__law_is_number rfl (fun _ _ _ _ _ _ us hl => match us, hl with | [_], _ => rfl)
  have O__law_is_word : ∀ a b c, FnG P w K mg base 1 _ fd__law_is_word ["_law_item"] (spD (GD (TTK K) (ctOf K clsNs) (ecOf K errNs) a b c) K false 1 m__law_is_word) := fun a b c => ok__law_is_word Y  D__law_is_word
  have F__law_is_word : ∀ a b c, Fn (GD (TTK K) (ctOf K clsNs) (ecOf K errNs) a b c) P w K mg base "_law_is_word" 1 false m__law_is_word [] := fun a b c => mkFn (ps := ["_law_item"]) D__law_is_word (O__law_is_word a b c) g__law_is_word rfl (fun _ _ _ _ _ _ us hl => match us, hl with | [_], _ => rfl)
  have O_are_names : ∀ a b c, FnG P w K mg base 2 _ fd_are_names ["value"] (spD (GD (TTK K) (ctOf K clsNs) (ecOf K errNs) a b c) K false 1 m_are_names) := fun a b c => ok_are_names Y (F_is_list a b c) (F_is_name a b c) D_are_names
  have F_are_names : ∀ a b c, Fn (GD (TTK K) (ctOf K clsNs) (ecOf K errNs) a b c) P w K mg base "are_names" 2 false m_are_names [] := fun a b c => mkFn (ps := ["value"]) D_are_names (O_are_names a b c) g_are_names rfl (fun _ _ _ _ _ _ us hl => match us, hl with | [_], _ => rfl)
  have O__law_take : ∀ a b c, FnG P w K mg base 2 _ fd__law_take ["_law_draw", "_law_size"] (spD (GD (TTK K) (ctOf K clsNs) (ecOf K errNs) a b c) K false 2 mTake) := fun a b c => take_of rfl okT
  have F__law_take : ∀ a b c, Fn (GD (TTK K) (ctOf K clsNs) (ecOf K errNs) a b c) P w K mg base "_law_take" 2 false mTake [] := fun a b c => mkFn (ps := ["_law_draw", "_law_size"]) D__law_take (O__law_take a b c) g__law_take rfl (fun _ _ _ _ _ _ us hl => match us, hl with | [_, _], _ => rfl)
  have O__law_due : ∀ a b c, FnG P w K mg base 2 _ fd__law_due ["_law_parts"] (spD (GD (TTK K) (ctOf K clsNs) (ecOf K errNs) a b c) K false 1 m__law_due) := fun a b c => ok__law_due Y (F__law_is_number a b c) (F__law_is_word a b c) D__law_due
  have F__law_due : ∀ a b c, Fn (GD (TTK K) (ctOf K clsNs) (ecOf K errNs) a b c) P w K mg base "_law_due" 2 false m__law_due [] := fun a b c => mkFn (ps := ["_law_parts"]) D__law_due (O__law_due a b c) g__law_due rfl (fun _ _ _ _ _ _ us hl => match us, hl with | [_], _ => rfl)
  have O_Task___init__ : ∀ a b c, FnG P w K mg base 3 _ fd_Task___init__ ["self", "effort", "worth", "needs"] (spI (GD (TTK K) (ctOf K clsNs) (ecOf K errNs) a b c) K 3 m_Task___init__ 0) := fun a b c => ok_Task___init__ Y (F_is_number a b c) (ErT a b c) E_BadTask (F_are_names a b c) (ClT a b c) (full_of (cs := clsNs) rfl rfl) Df_Task___init__
  have B_Task___init__ : Binds K fd_Task___init__ ["self", "effort", "worth", "needs"] [] := bindsAll Df_Task___init__ (List.cons_ne_nil _ _) fun _ _ _ _ _ _ _ us its h1 h2 => match us, its, h1, h2 with | [_, _, _, _], [_], _, _ => ⟨_, rfl, rfl⟩
  have MC_Task_0_needs_worth_effort : ∀ a b c, MkIK (GD (TTK K) (ctOf K clsNs) (ecOf K errNs) a b c) P w K mg base "Task" 3 m_Task___init__ 0 0 ["needs", "worth", "effort"] (fun us ws => permIx [2, 1, 0] us ws ++ []) := fun a b c => mkMkIKD (n0 := "self") (ps := ["effort", "worth", "needs"]) (dvs := [V.ref (He.dflAt ("Task", some "__init__") 0 K)]) [2, 1, 0] 1 _ (ClT a b c) rfl gl_Task q_Task___init__ Df_Task___init__ (O_Task___init__ a b c) (List.cons_ne_nil _ _) (fun S => .nil) (by decide) rfl fun _ _ _ _ _ _ _ _ us its ws h1 h2 h3 => match us, its, ws, h1, h2, h3 with | [], [_], [_, _, _], _, _, _ => ⟨_, rfl, rfl⟩
  have MC_Task_1_worth : ∀ a b c, MkIK (GD (TTK K) (ctOf K clsNs) (ecOf K errNs) a b c) P w K mg base "Task" 3 m_Task___init__ 0 1 ["worth"] (fun us ws => permIx [0, 1] us ws ++ [.wtp []]) := fun a b c => mkMkIKD (n0 := "self") (ps := ["effort", "worth", "needs"]) (dvs := [V.ref (He.dflAt ("Task", some "__init__") 0 K)]) [0, 1] 0 _ (ClT a b c) rfl gl_Task q_Task___init__ Df_Task___init__ (O_Task___init__ a b c) (List.cons_ne_nil _ _) (fun S => .cons (.wtp (tup0_ok (cx.x 7 rfl)) rfl fun i v d e => by simp at e) .nil) (by decide) rfl fun _ _ _ _ _ _ _ _ us its ws h1 h2 h3 => match us, its, ws, h1, h2, h3 with | [_], [_], [_], _, _, _ => ⟨_, rfl, rfl⟩
  have M_Task : ∀ a b c, MkI (GD (TTK K) (ctOf K clsNs) (ecOf K errNs) a b c) P w K mg base "Task" 3 m_Task___init__ 0 [] := fun a b c => mkMkIB (n0 := "self") (ps := ["effort", "worth", "needs"]) (ClT a b c) rfl gl_Task q_Task___init__ (O_Task___init__ a b c) rfl B_Task___init__
  have O__law_pick : ∀ a b c, FnG P w K mg base 3 _ fd__law_pick ["_law_draw", "_law_some"] (spD (GD (TTK K) (ctOf K clsNs) (ecOf K errNs) a b c) K false 2 m__law_pick) := fun a b c => ok__law_pick Y (F__law_take a b c) D__law_pick
  have F__law_pick : ∀ a b c, Fn (GD (TTK K) (ctOf K clsNs) (ecOf K errNs) a b c) P w K mg base "_law_pick" 3 false m__law_pick [] := fun a b c => mkFn (ps := ["_law_draw", "_law_some"]) D__law_pick (O__law_pick a b c) g__law_pick rfl (fun _ _ _ _ _ _ us hl => match us, hl with | [_, _], _ => rfl)
  have O__law_shuffled : ∀ a b c, FnG P w K mg base 3 _ fd__law_shuffled ["_law_draw", "_law_some"] (spD (GD (TTK K) (ctOf K clsNs) (ecOf K errNs) a b c) K true 2 m__law_shuffled) := fun a b c => ok__law_shuffled Y (F__law_take a b c) D__law_shuffled
  have F__law_shuffled : ∀ a b c, Fn (GD (TTK K) (ctOf K clsNs) (ecOf K errNs) a b c) P w K mg base "_law_shuffled" 3 true m__law_shuffled [] := fun a b c => mkFn (ps := ["_law_draw", "_law_some"]) D__law_shuffled (O__law_shuffled a b c) g__law_shuffled rfl (fun _ _ _ _ _ _ us hl => match us, hl with | [_, _], _ => rfl)
  have O__law_drawn_names : ∀ a b c, FnG P w K mg base 4 _ fd__law_drawn_names ["_law_draw", "_law_total"] (spD (GD (TTK K) (ctOf K clsNs) (ecOf K errNs) a b c) K true 2 m__law_drawn_names) := fun a b c => ok__law_drawn_names Y (F__law_pick a b c) (F__law_take a b c) D__law_drawn_names
  have F__law_drawn_names : ∀ a b c, Fn (GD (TTK K) (ctOf K clsNs) (ecOf K errNs) a b c) P w K mg base "_law_drawn_names" 4 true m__law_drawn_names [] := fun a b c => mkFn (ps := ["_law_draw", "_law_total"]) D__law_drawn_names (O__law_drawn_names a b c) g__law_drawn_names rfl (fun _ _ _ _ _ _ us hl => match us, hl with | [_, _], _ => rfl)
  have O__law_numbers : ∀ a b c, FnG P w K mg base 4 _ fd__law_numbers ["_law_draw"] (spD (GD (TTK K) (ctOf K clsNs) (ecOf K errNs) a b c) K false 1 m__law_numbers) := fun a b c => ok__law_numbers Y (F__law_pick a b c) (F__law_take a b c) D__law_numbers
  have F__law_numbers : ∀ a b c, Fn (GD (TTK K) (ctOf K clsNs) (ecOf K errNs) a b c) P w K mg base "_law_numbers" 4 false m__law_numbers [] := fun a b c => mkFn (ps := ["_law_draw"]) D__law_numbers (O__law_numbers a b c) g__law_numbers rfl (fun _ _ _ _ _ _ us hl => match us, hl with | [_], _ => rfl)
  have O__law_bent : ∀ a b c, FnG P w K mg base 4 _ fd__law_bent ["_law_draw", "_law_parts"] (spD (GD (TTK K) (ctOf K clsNs) (ecOf K errNs) a b c) K false 2 m__law_bent) := fun a b c => ok__law_bent Y (F__law_take a b c) (F__law_pick a b c) D__law_bent
  have F__law_bent : ∀ a b c, Fn (GD (TTK K) (ctOf K clsNs) (ecOf K errNs) a b c) P w K mg base "_law_bent" 4 false m__law_bent [] := fun a b c => mkFn (ps := ["_law_draw", "_law_parts"]) D__law_bent (O__law_bent a b c) g__law_bent rfl (fun _ _ _ _ _ _ us hl => match us, hl with | [_, _], _ => rfl)
  have O__law_apart_right : ∀ a b c, FnG P w K mg base 5 _ fd__law_apart_right ["_law_draw", "_law_made", "_law_parts"] (spD (GD (TTK K) (ctOf K clsNs) (ecOf K errNs) a b c) K false 3 m__law_apart_right) := fun a b c => ok__law_apart_right Y (M_Task a b c) (D_Task___eq__ a b c) (Ne_Task a b c) D__law_apart_right
  have F__law_apart_right : ∀ a b c, Fn (GD (TTK K) (ctOf K clsNs) (ecOf K errNs) a b c) P w K mg base "_law_apart_right" 5 false m__law_apart_right [] := fun a b c => mkFn (ps := ["_law_draw", "_law_made", "_law_parts"]) D__law_apart_right (O__law_apart_right a b c) g__law_apart_right rfl (fun _ _ _ _ _ _ us hl => match us, hl with | [_, _, _], _ => rfl)
  have O__law_refused : ∀ a b c, FnG P w K mg base 7 _ fd__law_refused ["_law_parts", "_law_due_here"] (spD (GD (TTK K) (ctOf K clsNs) (ecOf K errNs) a b c) K false 2 m__law_refused) := fun a b c => ok__law_refused Y (LG a b c) (CB a b c) D__law_caught g__law_caught b__law_caught MK__law_refused (M_Task a b c) (MC_Task_0_needs_worth_effort a b c) (ErT a b c) E_NoT D__law_refused
  have F__law_refused : ∀ a b c, Fn (GD (TTK K) (ctOf K clsNs) (ecOf K errNs) a b c) P w K mg base "_law_refused" 7 false m__law_refused [] := fun a b c => mkFn (ps := ["_law_parts", "_law_due_here"]) D__law_refused (O__law_refused a b c) g__law_refused rfl (fun _ _ _ _ _ _ us hl => match us, hl with | [_, _], _ => rfl)
  refine law_D (T := TTK K) (k := 7) (N := ["_law_script", "_law_draw", "_law_turn", "_law_days", "_law_pay", "_law_parts", "_law_lap", "_law_due_here", "_law_handed", "_law_made", "_law_plain", "_law_told", "_law_mixed"]) (ct := (ctOf K clsNs)) (ec := (ecOf K errNs)) D_law sc_law (by decide)
    (fun cdv A outer s H E hr gd tk => (s_setO 1 (e_call (rk := true) F__law_begun hr gd (by decide) (lets0 fun _ z => z) (a_cons (e_var 0) a_nil)) sc_law.nd))
    fun cdv A outer s H E ns hns hr gd tk => ⟨_, _, fun a b c => (by
      have F__law_take := F__law_take a b c
      have F__law_numbers := F__law_numbers a b c
      have F__law_drawn_names := F__law_drawn_names a b c
      have F__law_pick := F__law_pick a b c
      have F__law_bent := F__law_bent a b c
      have F__law_due := F__law_due a b c
      have F__law_refused := F__law_refused a b c
      have MC_Task_1_worth := MC_Task_1_worth a b c
      have M_Task := M_Task a b c
      have P_Task_needs := P_Task_needs a b c
      have P_Task_worth := P_Task_worth a b c
      have P_Task_effort := P_Task_effort a b c
      have F__law_shuffled := F__law_shuffled a b c
      have D_Task___eq__ := D_Task___eq__ a b c
      have F__law_apart_right := F__law_apart_right a b c
      exact (b_cons (s_forN 64 (passes_of rfl) rfl (i_rng1 (a_cons (e_op op_addA s_addA e_int (e_min2 rfl (a_cons (e_len (e_var 0) Y.b_len) (a_cons e_int a_nil)) Y.b_min)) a_nil) Y.b_range) (g_name 2 sc_law.nd) (b_cons (s_unp (g_tup (n := 2) rfl (gs_cons (g_name 3 sc_law.nd) (gs_cons (g_name 4 sc_law.nd) gs_nil))) (e_call (rk := false) F__law_numbers hr gd (by decide) (lets0 fun _ z => z) (a_cons (e_var 1) a_nil)))
    (b_cons (s_set 5 (e_tup (a_cons (e_var 3) (a_cons (e_var 4) (a_cons (e_fz (e_call (rk := true) F__law_drawn_names hr gd (by decide) (lets0 fun _ z => z) (a_cons (e_var 1) (a_cons (e_call (rk := false) F__law_take hr gd (by decide) (lets0 fun _ z => z) (a_cons (e_var 1) (a_cons e_int a_nil))) a_nil)))) a_nil)))) sc_law.nd)
    (b_cons (s_forN 64 (passes_of rfl) rfl (i_rng1 (a_cons (e_call (rk := false) F__law_pick hr gd (by decide) (lets0 fun _ z => z) (a_cons (e_var 1) (a_cons (e_fz (e_lst (a_cons e_int (a_cons e_int (a_cons e_int (a_cons e_int (a_cons e_int a_nil))))))) a_nil))) a_nil) Y.b_range) (g_name 6 sc_law.nd) (b_one (s_if (t_val (e_isi2 (T := "list") (U := "tuple") (by decide +kernel) (by decide +kernel) (e_ix (u1 hr) (e_var 5) e_int) Y.b_isinstance Y.b_list (by rfl) Y.b_tuple (by rfl))) (b_one (s_set 5 (e_call (rk := false) F__law_bent hr gd (by decide) (lets0 fun _ z => z) (a_cons (e_var 1) (a_cons (e_var 5) a_nil))) sc_law.nd)) b_nil)))
    (b_cons (s_set 7 (e_call (rk := false) F__law_due hr gd (by decide) (lets0 fun _ z => z) (a_cons (e_var 5) a_nil)) sc_law.nd)
    (b_cons (s_if (t_cmp op_notN s_notN (e_var 7) e_non) (b_cons (s_if (t_not (t_val (e_call (rk := false) F__law_refused hr gd (by decide) (lets0 fun _ z => z) (a_cons (e_var 5) (a_cons (e_var 7) a_nil))))) (b_one (s_ret e_bl)) b_nil)
    (b_one s_continue)) b_nil)
    (b_cons (s_setO 8 (e_lstA rfl (e_ix (u1 hr) (e_var 5) e_int) Y.b_list) sc_law.nd)
    (b_cons (s_par 9 10 (a_cons (e_frz [8] (e_make (m := m_Task___init__) M_Task hr gd (by decide) (lets0 fun _ z => z) (a_cons (e_ix (u1 hr) (e_var 5) e_int) (a_cons (e_ix (u1 hr) (e_var 5) e_int) (a_cons (e_var 8) a_nil))))) (a_cons (e_makeK (m := m_Task___init__) MC_Task_1_worth hr gd (by decide) (lets0 fun _ z => z) (a_cons (e_ix (u1 hr) (e_var 5) e_int) a_nil) (k_cons (e_ix (u1 hr) (e_var 5) e_int) k_nil)) a_nil)) sc_law.nd)
    (b_cons (s_expr (e_append 8 (a_cons e_non a_nil)))
    (b_still 8 (b_cons (s_set 11 (e_fz (e_lst (a_cons (e_prop (rk := false) (m := m_Task_effort) P_Task_effort hr gd (by decide) (e_var 9)) (a_cons (e_prop (rk := false) (m := m_Task_worth) P_Task_worth hr gd (by decide) (e_var 9)) (a_cons (e_prop (rk := false) (m := m_Task_needs) P_Task_needs hr gd (by decide) (e_var 9)) (a_cons (e_prop (rk := false) (m := m_Task_needs) P_Task_needs hr gd (by decide) (e_var 10)) a_nil)))))) sc_law.nd)
    (b_cons (s_if (t_cmp (op_neD (u64 hr)) s_ne (e_reprA (e_var 11) gd (u64 hr) Y.b_repr) (e_reprA (e_lst (a_cons (e_ix (u1 hr) (e_var 5) e_int) (a_cons (e_ix (u1 hr) (e_var 5) e_int) (a_cons (e_tupA rfl (e_sorted rfl (e_ix (u1 hr) (e_var 5) e_int) Y.b_sorted) Y.b_tuple) (a_cons (e_tup a_nil) a_nil))))) gd (u64 hr) Y.b_repr)) (b_one (s_ret e_bl)) b_nil)
    (b_cons (s_set 12 (e_tupA rfl (e_call (rk := true) F__law_shuffled hr gd (by decide) (lets0 fun _ z => z) (a_cons (e_var 1) (a_cons (e_fz (e_lstA rfl (e_ix (u1 hr) (e_var 5) e_int) Y.b_list)) a_nil))) Y.b_tuple) sc_law.nd)
    (b_one (s_if (t_w (w_or (t_not (t_eqO (m := m_Task___eq__) D_Task___eq__ hr gd (by decide) (e_var 9) (e_make (m := m_Task___init__) M_Task hr gd (by decide) (lets0 fun _ z => z) (a_cons (e_ix (u1 hr) (e_var 5) e_int) (a_cons (e_ix (u1 hr) (e_var 5) e_int) (a_cons (e_var 12) a_nil)))))) (w_or1 (t_not (t_val (e_call (rk := false) F__law_apart_right hr gd (by decide) (lets0 fun _ z => z) (a_cons (e_var 1) (a_cons (e_var 9) (a_cons (e_var 5) a_nil))))))))) (b_one (s_ret e_bl)) b_nil)))))))))))))))
    (b_one (s_ret e_bl)))), Nat.le_trans (by decide) limT_big, ?_⟩
  clear c Y fd_is_name D_is_name g_is_name fd_is_number D_is_number g_is_number fd_is_list D_is_list g_is_list fd__law_begun D__law_begun g__law_begun fd__law_blend D__law_blend g__law_blend fd__law_caught D__law_caught g__law_caught fd__law_is_number D__law_is_number g__law_is_number fd__law_is_word D__law_is_word g__law_is_word fd_are_names D_are_names g_are_names fd__law_take D__law_take g__law_take fd__law_due D__law_due g__law_due fd__law_pick D__law_pick g__law_pick fd__law_shuffled D__law_shuffled g__law_shuffled fd__law_drawn_names D__law_drawn_names g__law_drawn_names fd__law_numbers D__law_numbers g__law_numbers fd__law_bent D__law_bent g__law_bent fd__law_apart_right D__law_apart_right g__law_apart_right fd__law_refused D__law_refused g__law_refused fd_law D_law g_law fd_BadTask D_BadTask m_BadTask fd_BadBacklog D_BadBacklog m_BadBacklog fd_NoTask D_NoTask m_NoTask fd_Task___eq__ Df_Task___eq__ q_Task___eq__ fd_Task___init__ Df_Task___init__ q_Task___init__ fd_Task_effort Df_Task_effort q_Task_effort fd_Task_worth Df_Task_worth q_Task_worth fd_Task_needs Df_Task_needs q_Task_needs b ErT hcl ClT A_own_effort A_own_worth A_own_needs Ne_Task gl_Task E_BadTask E_BadBacklog E_NoTask bB okB okT E_NoT LG CB b__law_caught MK__law_refused O_is_name F_is_name O_is_number F_is_number O_is_list F_is_list O_Task_effort P_Task_effort O_Task_worth P_Task_worth O_Task_needs P_Task_needs O_Task___eq__ D_Task___eq__ F__law_begun O__law_is_number F__law_is_number O__law_is_word F__law_is_word O_are_names F_are_names O__law_take F__law_take O__law_due F__law_due O_Task___init__ B_Task___init__ MC_Task_0_needs_worth_effort MC_Task_1_worth M_Task O__law_pick F__law_pick O__law_shuffled F__law_shuffled O__law_drawn_names F__law_drawn_names O__law_numbers F__law_numbers O__law_bent F__law_bent O__law_apart_right F__law_apart_right O__law_refused F__law_refused cx X Gn
  refine seq_gen fun nx hk => ?_
  walk_at "row"
  rw [List.length_map]
  generalize hK : (if (20 : Int) < (ns.length : Nat) then (20 : Int) else (ns.length : Nat)) = T
  have hT : 0 ≤ T ∧ T ≤ 20 := by split at hK <;> omega
  refine ⟨by omega, by rw [rngD_len]; omega, forL_inv (fun ρ => ∃ s2 s3 s4 s5 s6 s7 s8 s9 s10 s11 s12 : Option D, ρ = [some (.imm (.wls (ns.map D.int))), some (.imm (.tok 0)), s2.map WL.Slot.imm, s3.map WL.Slot.imm, s4.map WL.Slot.imm, s5.map WL.Slot.imm, s6.map WL.Slot.imm, s7.map WL.Slot.imm, s8.map WL.Slot.imm, s9.map WL.Slot.imm, s10.map WL.Slot.imm, s11.map WL.Slot.imm, s12.map WL.Slot.imm]) (fun ρ h => ?_) _ _ ⟨none, none, none, none, none, none, none, none, none, none, none, rfl⟩ fun x hx ρ nx2 h hk2 => ?_⟩
  · obtain ⟨s2, s3, s4, s5, s6, s7, s8, s9, s10, s11, s12, rfl⟩ := h
    refine hk _ ?_; clear hk; clear nx
    walk_at "row"
  obtain ⟨s2, s3, s4, s5, s6, s7, s8, s9, s10, s11, s12, rfl⟩ := h
  clear hk
  refine seq_gen fun nx hk => ?_
  walk_at "row"
  refine ⟨rfl, rfl, fun d hd => ?_, fun _ z => z.elim⟩
  obtain ⟨e, w, rfl, e1, e2, w1, w2⟩ := hd
  dsimp only
  refine ⟨rfl, ?_⟩
  refine hk _ ?_; clear hk; clear nx
  refine seq_gen fun nx hk => ?_
  walk_at "row"
  refine ⟨rfl, ⟨_, rfl, by decide, by decide⟩, fun d hd => ?_, fun _ z => z.elim⟩
  obtain ⟨k, rfl, k0, k1⟩ := take_ofs hd
  obtain ⟨k, rfl⟩ := Int.eq_ofNat_of_zero_le k0
  refine ⟨rfl, ⟨k, rfl, by omega⟩, fun d hd => ?_, fun _ z => z.elim⟩
  obtain ⟨_, zs, q, rfl, hzl, hzd, hzn⟩ := hd
  have q : k = zs.length := by simp at q; omega
  subst q
  refine hk _ ?_; clear hk; clear nx
  refine seq_gen fun nx hk => ?_
  walk_at "row"
  refine ⟨rfl, .inl ⟨_, rfl, by decide, by decide⟩, fun d hd => ?_, fun _ z => z.elim⟩
  obtain ⟨lp, rfl, hlp⟩ : ∃ n : Nat, d = .int n ∧ n ≤ 2 := by
    have := pick_of hd
    simp only [List.mem_cons, List.not_mem_nil, or_false] at this
    rcases this with e | e | e | e | e <;> subst e
    · exact ⟨0, rfl, by decide⟩
    · exact ⟨0, rfl, by decide⟩
    · exact ⟨1, rfl, by decide⟩
    · exact ⟨1, rfl, by decide⟩
    · exact ⟨2, rfl, by decide⟩
  dsimp only
  refine ⟨by omega, by rw [rngD_len]; omega, forL_ix (fun i ρ => ∃ (a b c : D) (s6 s7 s8 s9 s10 s11 s12 : Option D), SmD a ∧ SmD b ∧ NeV (5 + 31 * i) c ∧ ρ = [some (.imm (.wls (ns.map D.int))), some (.imm (.tok 0)), some (.imm x), some (.imm (.int e)), some (.imm (.int w)), some (.imm (.tup [a, b, c])), s6.map WL.Slot.imm, s7.map WL.Slot.imm, s8.map WL.Slot.imm, s9.map WL.Slot.imm, s10.map WL.Slot.imm, s11.map WL.Slot.imm, s12.map WL.Slot.imm]) _ 0 _ ⟨.int e, .int w, .lst (zs.map D.str), s6, s7, s8, s9, s10, s11, s12, ?_, ?_, ?_, rfl⟩ (fun ρ h => ?_) fun i y hy ρ nx3 h hk3 => ?_⟩
  · exact ⟨rfl, by simp only [rOk]; exact decide_eq_true (by omega), by show (41 : Nat) ≤ 1000; decide, Nat.zero_le _⟩
  · exact ⟨rfl, by simp only [rOk]; exact decide_eq_true (by omega), by show (41 : Nat) ≤ 1000; decide, Nat.zero_le _⟩
  · exact (NeV.seq (fun y hy => by
      obtain ⟨z, hz, rfl⟩ := List.mem_map.mp hy
      exact sm_name (hzn z hz)) (by rw [List.length_map]; omega) (by decide)).1
  rotate_left
  · obtain ⟨a, b, c, s6, s7, s8, s9, s10, s11, s12, ha, hb, hc, rfl⟩ := h
    obtain ⟨_, hi⟩ := rngD_get hy
    clear hk
    walk_at "row"
    rw [Nat.zero_add] at hc
    have e2 : atI [a, b, c] 2 = some c := rfl
    rw [e2]
    have key : (∃ xs, itemsV c = some xs ∧ ∃ t, WL.tyW c = some t ∧ (t == "list" || t == "tuple") = true) ∨ ∃ t, WL.tyW c = some t ∧ (t == "list" || t == "tuple") = false := by
      have hty := hc.ty
      cases c with
      | tup xs => exact .inl ⟨xs, rfl, _, rfl, rfl⟩
      | lst xs => exact .inl ⟨xs, rfl, _, rfl, rfl⟩
      | _ => first
        | (simp [tyN] at hty; done)
        | exact .inr ⟨_, rfl, rfl⟩
    dsimp only
    rcases key with ⟨xs, hx, t, et, eb⟩ | ⟨t, et, eb⟩
    · rw [et]
      dsimp only
      rw [eb, if_pos rfl]
      refine ⟨rfl, ⟨a, b, c, _, rfl, ha, hb, hc, ⟨xs, hx⟩, by omega⟩, fun d hd => ?_, fun _ z => z.elim⟩
      obtain ⟨a', b', c', rfl, ha', hb', hc'⟩ := bent_post hc (by omega) hd
      exact hk3 _ ⟨a', b', c', some _, s7, s8, s9, s10, s11, s12, ha', hb', hc'.up (by omega), rfl⟩
    · rw [et]
      dsimp only
      rw [eb, if_neg (by decide)]
      exact hk3 _ ⟨a, b, c, some _, s7, s8, s9, s10, s11, s12, ha, hb, hc.up (by omega), rfl⟩
  obtain ⟨a, b, c, s6, s7, s8, s9, s10, s11, s12, ha, hb, hc, rfl⟩ := h
  rw [rngD_len, Nat.zero_add] at hc
  refine hk _ ?_; clear hk; clear nx
  refine seq_gen fun nx hk => ?_
  walk_at "row"
  have hc := hc.up (m := 100) (by omega)
  refine ⟨rfl, ⟨a, b, c, rfl, ha, hb, hc⟩, fun d hd => ?_, fun _ z => z.elim⟩
  rcases due_post hd with ⟨g, rfl⟩ | ⟨wd, hbad, rfl⟩
  case inr =>
    refine hk _ ?_; clear hk; clear nx
    refine seq_gen fun nx hk => ?_
    walk_at "row"
    refine seq_gen fun nx hk => ?_
    walk_at "row"
    refine ⟨rfl, ⟨a, b, c, wd, rfl, ha, hb, hc, hbad⟩, fun d hd => ?_, fun _ z => z.elim⟩
    obtain rfl : d = .bl true := hd
    dsimp only
    rw [if_neg (by decide)]
    refine hk _ ?_; clear hk; clear nx
    walk_at "row"
    exact hk2 _ ⟨some _, some _, some _, some _, s6, some _, s8, s9, s10, s11, s12, rfl⟩
  refine hk _ ?_; clear hk; clear nx
  refine seq_gen fun nx hk => ?_
  walk_at "row"
  refine hk _ ?_; clear hk; clear nx
  obtain ⟨e', w', ms, rfl, rfl, hs, T'⟩ := g.ok
  have hms : c = .lst (ms.map D.str) ∨ c = .tup (ms.map D.str) := by
    rcases hs with h | h | ⟨rfl, _⟩
    · exact .inl h
    · exact .inr h
    · have := hc.ty
      simp [tyN] at this
  have hmn : ∀ z ∈ ms, LN z := fun z hz => by
    refine LN.ofName (T'.nm z hz) ?_
    rcases hms with rfl | rfl
    · exact (((hc.it _ rfl).2 (.str z) (List.mem_map.mpr ⟨z, hz, rfl⟩)).1).safe z rfl
    · exact (((hc.it _ rfl).2 (.str z) (List.mem_map.mpr ⟨z, hz, rfl⟩)).1).safe z rfl
  have hml := T'.ln
  refine seq_gen fun nx hk => ?_
  have go : nx [some (.imm (.wls (ns.map D.int))), some (.imm (.tok 0)), some (.imm x), some (.imm (.int e)), some (.imm (.int w)), some (.imm (.tup [.int e', .int w', c])), s6.map WL.Slot.imm, some (.imm .non), some (.own (.lst (ms.map D.str))), s9.map WL.Slot.imm, s10.map WL.Slot.imm, s11.map WL.Slot.imm, s12.map WL.Slot.imm] := by
    refine hk _ ?_; clear hk; clear nx
    refine seq_gen fun nx hk => ?_
    walk_at "row"
    have hin : ∀ c', SqW c' ms → GoodP (.int e') (.int w') c' := fun c' h => ⟨⟨e', rfl, T'.e1, T'.e2⟩, ⟨w', rfl, T'.w1, T'.w2⟩, ms, h, T'.nm, T'.nd, T'.ln⟩
    have hmk : ∀ (c' : D), SqW c' ms → ∀ d, m_Task___init__.post [.int e', .int w', c'] d → d = tI ⟨e', w', srt ms⟩ := fun c' hc' d hd => by
      obtain ⟨e2, w2, ms2, q1, q2, hs2, _, rfl⟩ := mk_good hd
      obtain rfl := D.int.inj q1
      obtain rfl := D.int.inj q2
      obtain rfl := hs2.inj hc'
      rfl
    refine ⟨rfl, ⟨_, _, _, rfl, rfl, rfl, wnt_names (.inl rfl) hmn (by omega)⟩, fun d hd => ?_, fun e he => ?_⟩
    case refine_2 =>
      obtain ⟨w2, h2, _⟩ := mk_exc he
      exact (badP_good h2 (hin _ (.inl rfl))).elim
    obtain rfl := hmk _ (.inl rfl) d hd
    refine ⟨sep_task _, ?_⟩
    rw [show permIx [0, 1] [D.int e'] [D.int w'] ++ [D.wtp []] = [D.int e', D.int w', D.wtp []] from rfl]
    refine ⟨⟨_, _, _, rfl, rfl, rfl, rfl, fun xs e => nomatch e⟩, fun d hd => ?_, fun e he => ?_⟩
    case refine_2 =>
      obtain ⟨w2, h2, _⟩ := mk_exc he
      exact (badP_good h2 ⟨⟨e', rfl, T'.e1, T'.e2⟩, ⟨w', rfl, T'.w1, T'.w2⟩, [], .inr (.inr ⟨rfl, rfl⟩), (fun _ h => nomatch h), .nil, by decide⟩).elim
    obtain ⟨e2, w2, ms2, q1, q2, hs2, _, rfl⟩ := mk_good hd
    obtain rfl := D.int.inj q1
    obtain rfl := D.int.inj q2
    obtain rfl : ([] : List Str) = ms2 := SqW.inj (.inr (.inr ⟨rfl, rfl⟩)) hs2
    have hs0 : srt ([] : List Str) = [] := List.length_eq_zero_iff.mp (by rw [srt_len]; rfl)
    rw [hs0]
    refine hk _ ?_; clear hk; clear nx
    refine seq_gen fun nx hk => ?_
    walk_at "row"
    refine ⟨by rw [List.length_map]; omega, ?_⟩
    refine hk _ ?_; clear hk; clear nx
    refine ⟨_, rfl, rfl, ?_⟩
    dsimp only [WL.Own.d, List.set_cons_succ, List.set_cons_zero]
    refine seq_gen fun nx hk => ?_
    walk_at "row"
    refine ⟨⟨_, rfl⟩, ⟨_, rfl⟩, fun d hd => ?_⟩
    obtain rfl : d = .int e' := by
      obtain ⟨t, q, rfl⟩ := hd
      have := tI_inj _ _ (List.cons.inj q).1
      rw [← this]
    refine ⟨⟨_, rfl⟩, ⟨_, rfl⟩, fun d hd => ?_⟩
    obtain rfl : d = .int w' := by
      obtain ⟨t, q, rfl⟩ := hd
      have := tI_inj _ _ (List.cons.inj q).1
      rw [← this]
    refine ⟨⟨_, rfl⟩, ⟨_, rfl⟩, fun d hd => ?_⟩
    obtain rfl : d = .tup ((srt ms).map D.str) := by
      obtain ⟨t, q, rfl⟩ := hd
      have := tI_inj _ _ (List.cons.inj q).1
      rw [← this]
    refine ⟨⟨_, rfl⟩, ⟨_, rfl⟩, fun d hd => ?_⟩
    obtain rfl : d = .tup [] := by
      obtain ⟨t, q, rfl⟩ := hd
      have := tI_inj _ _ (List.cons.inj q).1
      rw [← this]; rfl
    refine hk _ ?_; clear hk; clear nx
    refine seq_gen fun nx hk => ?_
    walk_at "row"
    have hre : ReD (.lst [.int e', .int w', .tup ((srt ms).map D.str), .tup []]) := (SmD.seq (fun y hy => by
      simp only [List.mem_cons, List.not_mem_nil, or_false] at hy
      rcases hy with rfl | rfl | rfl | rfl
      · exact ha
      · exact hb
      · exact sm_ns (fun z hz => hmn z (mem_srt.mp hz)) (by rw [srt_len]; omega)
      · exact ⟨rfl, by decide +kernel, by decide +kernel, by decide +kernel⟩) (by simp)).1
    refine hre.of ?_
    rw [show atI [D.int e', D.int w', c] 2 = some c from rfl]
    refine opSrt_of (ss := ms) (by rcases hms with rfl | rfl <;> rfl) (by omega) ?_
    dsimp only
    refine hre.of ⟨⟨shown_ok hre.ok, shown_ok hre.ok, by simp [WL.deep], by simp [WL.deep]⟩, ?_⟩
    rw [pyEq_ss, if_neg (by decide)]
    refine hk _ ?_; clear hk; clear nx
    refine seq_gen fun nx hk => ?_
    have go2 : 2 = m__law_shuffled.ar ∧ m__law_shuffled.pre [.tok 0, .lst (ms.map D.str)] ∧ (∀ d, m__law_shuffled.post [.tok 0, .lst (ms.map D.str)] d → tupleA d fun d => nx [some (.imm (.wls (ns.map D.int))), some (.imm (.tok 0)), some (.imm x), some (.imm (.int e)), some (.imm (.int w)), some (.imm (.tup [.int e', .int w', c])), s6.map WL.Slot.imm, some (.imm .non), some (.imm (.lst (ms.map D.str ++ [.non]))), some (.imm (tI ⟨e', w', srt ms⟩)), some (.imm (tI ⟨e', w', []⟩)), some (.imm (.lst [.int e', .int w', .tup ((srt ms).map D.str), .tup []])), some (.imm d)]) ∧ ∀ x, m__law_shuffled.exc [.tok 0, .lst (ms.map D.str)] x → False := by
      refine ⟨rfl, shuf_pre (ns := ms) (.inr rfl) (by omega) hmn, fun d hd => ?_, fun _ z => z.elim⟩
      obtain ⟨os, rfl, hp⟩ := shuf_post (ns := ms) (.inr rfl) hd
      dsimp only [WL.tupleA]
      refine hk _ ?_; clear hk; clear nx
      have hon : ∀ z ∈ os, LN z := fun z hz => hmn z (hp.mem_iff.mp hz)
      have hol := hp.length_eq
      walk_at "row"
      unfold WL.fEqO
      walk_at "row"
      have To : TaskOk e' w' os := ⟨T'.e1, T'.e2, T'.w1, T'.w2, fun z hz => (hon z hz).ok, hp.nodup_iff.mpr T'.nd, by omega⟩
      have hso : SqW (.tup (os.map D.str)) os := .inr (.inl rfl)
      refine ⟨rfl, ⟨_, _, _, rfl, rfl, rfl, wnt_names (.inr rfl) hon (by omega)⟩, fun d hd => ?_, fun e he => ?_⟩
      case refine_2 =>
        obtain ⟨w2, h2, _⟩ := mk_exc he
        exact (badP_good h2 ⟨⟨e', rfl, T'.e1, T'.e2⟩, ⟨w', rfl, T'.w1, T'.w2⟩, os, hso, To.nm, To.nd, To.ln⟩).elim
      obtain ⟨e2, w2, ms2, q1, q2, hs2, _, rfl⟩ := mk_good hd
      obtain rfl := D.int.inj q1
      obtain rfl := D.int.inj q2
      obtain rfl : os = ms2 := hso.inj hs2
      refine ⟨⟨_, rfl⟩, ⟨_, rfl⟩, ⟨_, _, rfl, fun z hz => hmn z (mem_srt.mp hz), .inr ⟨_, rfl, fun z hz => hon z (mem_srt.mp hz)⟩⟩, fun d hd => ?_⟩
      obtain rfl := teq_post hd
      rw [srt_congr hp, tEq_refl]
      dsimp only
      rw [if_neg (by decide)]
      refine ⟨rfl, ⟨e', w', c, ms, rfl, hms, T', hmn⟩, fun d hd => ?_, fun _ z => z.elim⟩
      obtain rfl : d = .bl true := hd
      dsimp only
      rw [if_neg (by decide)]
      exact hk2 _ ⟨some _, some _, some _, some _, s6, some _, some _, some _, some _, some _, some _, rfl⟩
    walk_at "row"
    rw [show atI [D.int e', D.int w', c] 2 = some c from rfl]
    rcases hms with rfl | rfl
    · exact go2
    · exact go2
  walk_at "row"
  rw [show atI [D.int e', D.int w', c] 2 = some c from rfl]
  rcases hms with rfl | rfl
  · exact go
  · exact go
theorem kup : Room 8 callerA := ⟨rfl, by decide, by decide⟩
end K03
open PySem PySem.W PySem.Calls PyProof.Rows
theorem PySem.Challenge.cw_worthlevels_k03_tasks_made_holds : PySem.Challenge.rw_worthlevels_k03_tasks_made.Holds := by
  w_on; o_law
  refine HandSHeadRun.head_any (r := OpenLaw.row PySem.Challenge.rw_worthlevels_k03_tasks_made) (q := view (OpenLaw.row PySem.Challenge.rw_worthlevels_k03_tasks_made).prog [31]) (H := K03.hk) (ob := K03.ob) (M := 8000) (loose := [("LevelError" : PySem.Str), ("BadTask" : PySem.Str), ("BadBacklog" : PySem.Str), ("NoTask" : PySem.Str), ("Task" : PySem.Str), ("is_name" : PySem.Str), ("is_number" : PySem.Str), ("is_list" : PySem.Str), ("are_names" : PySem.Str), ("_law_begun" : PySem.Str), ("_law_blend" : PySem.Str), ("_law_take" : PySem.Str), ("_law_pick" : PySem.Str), ("_law_shuffled" : PySem.Str), ("_law_drawn_names" : PySem.Str), ("_law_numbers" : PySem.Str), ("_law_caught" : PySem.Str), ("_law_is_number" : PySem.Str), ("_law_is_word" : PySem.Str), ("_law_due" : PySem.Str), ("_law_bent" : PySem.Str), ("_law_refused" : PySem.Str), ("_law_apart_right" : PySem.Str), ("LETTERS" : PySem.Str), ("LONGEST_NAME" : PySem.Str), ("MOST_TASKS" : PySem.Str), ("MOST_EFFORT" : PySem.Str), ("MOST_WORTH" : PySem.Str)]) (d := HandSHeadRun.topDef (OpenLaw.row PySem.Challenge.rw_worthlevels_k03_tasks_made).prog 31) (kwd := []) K03.ob_eq
    (by kernel_rfl) (fun s => by kernel_rfl) K03.run (by kernel_rfl) (by kernel_rfl) (by kernel_rfl) (by rfl) (by first | assumption | decide +kernel) (by decide +kernel) ⟨rfl, rfl, rfl, rfl, rfl, by decide +kernel⟩ ?hw ?hc
  case hw => w_witness2
  case hc =>
    refine WL.walk_ofGT (l := PySem.Challenge.rw_worthlevels_k03_tasks_made) (n := 63) (k := 8) (x := "_law_script") rfl (by decide) (by kernel_rfl) K03.kup ?F
    intro w mg fa h Yp Gn hmg0
    obtain ⟨K, KX, c⟩ := Yp
    have hmg : mg ("law" : PySem.Str) = some (.ref fa) := by
      have e : (HandSHeadRun.topDef (OpenLaw.row PySem.Challenge.rw_worthlevels_k03_tasks_made).prog 31).name = ("law" : PySem.Str) := by kernel_rfl
      rw [← e]
      exact hmg0
    obtain ⟨fd, hb, hF⟩ := K03.facts (P := (PySem.Challenge.rw_worthlevels_k03_tasks_made).prog) (w := w) KX Gn hmg c
    have mem : ∀ p ∈ WL.mkrsOf K K03.mks, ∃ d ∈ K03.tf, p.1 = (He.cT K d).1 ∧ p.2.1 = (He.cT K d).2 := fun p hp => by
      obtain ⟨q, hq, rfl⟩ := List.mem_map.mp hp
      refine ⟨q.1, ?_, rfl, rfl⟩
      have e : K03.mks.map (·.1) = K03.tf := rfl
      rw [← e]
      exact List.mem_map.mpr ⟨q, hq, rfl⟩
    exact ⟨K, fd, WL.spLaw (K03.TTK K) K, WL.mkrsOf K K03.mks, KX, (fun p hp => by
      obtain ⟨d, hd, _, e⟩ := mem p hp
      rw [e]; exact c.none_ d hd), (fun p hp => by
      obtain ⟨d, hd, _, e⟩ := mem p hp
      rw [e]; exact c.out d hd), (fun p hp => by
      obtain ⟨d, hd, e1, e⟩ := mem p hp
      rw [e1, e]; exact codeHd_of_K KX (c.hd d hd)), hb, (fun H a ns hl hO hS => ⟨a, ns, rfl, hS, by rw [WL.tabsOf_eq] at hO; exact hO, hl, fun _ => rfl⟩), hF⟩
