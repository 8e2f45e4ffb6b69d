import PyProof.Rows.All
import Wide.All
import OpenK.AllK
import Wide.FinOn
import HandS.HeadHook2
import HandS.HeadHook3
import HandS.Head0
import HandS.HeadNt
import HandS.HeadHook4
import PySem.Challenge.RW_permitgaps_k55_trials
import KE.KStateDown
import Lean
import HandS.Base
import HandS.Call
import HandS.Ends
import HandS.More
import HandS.Words
import HandS.WordsExc
import HandS.Defaults
import HandS.Head1
import HandS.Head2
import HandS.HeadEnd
import HandS.HeadHook1
import HandS.ForMost
import HandS.Lambda
import KE.KeyNested
import HandS.Wide
import HandS.WideBits
import HandS.TupAny
import HandS.IsInst
import HandS.Flow
import HandS.Zip
import HandS.Style
import HandS.Dict
import HandS.Iter
import HandS.Comp
import HandS.Exc
import PyProof.Rows.EqDataRows
import PyProof.ReprRoads
import PyProof.StrLawsRepr
import PyProof.FitsInt
import KE.DataMinMax
import HandS.SetFor
import HandS.SortInts
import HandS.Strs
import KE.KTupSum
import PyProof.MinMaxWalk
import PyProof.WalkInts
import KE.GoesEnum
import KE.GoesMore
import HandS.IterVal
import HandS.TupSets
import HandS.SetBool
import HandS.MakeKwOnly
import HandS.Deep
import HandS.SortKw
import HandS.Star
import KE.KMinKey
import HandS.TupMul
import PyProof.NeKinds
import HandS.ExcInit
import HandS.ExcIs
import HandS.ExcField
import HandS.CallSlots
import HandS.NestedK
import HandS.EndTab
import HandS.Property
import HandS.NamedTupGet
import HandS.Text
import HandS.FStr
import HandS.NoneIn
import HandS.ClsMeth
import KE.KWithOwn
import HandS.Finally
import HandS.HotCalls
import HandS.ExcBuiltin
import HandS.SlotsOwn
set_option Elab.async false
set_option linter.all false
set_option maxRecDepth 100000
set_option maxHeartbeats 0
namespace L3
open PySem
abbrev noTab : Obj := { cls := .none, data := .fields #[] }
end L3
namespace He
open PySem PySem.Spec PyProof.Rows L2
def oexB (K : PySem.W.Frag) (C : Addr) : Bool := (match K.lookup C with
  | some ⟨.type "type", _, .cls cd, sl⟩ => (match cd.mro, sl.toList with
    | .ref C' :: bm, [_, _, _, _, some (.builtin n), _] => (C' == C && n == "ValueError.__new__") && ((!cd.hasDel && cd.hasDict) && PySem.HandSPX.refsVE bm)
    | _, _ => false)
  | _ => false) && (eqO (PySem.W.findIn K (.ref C) "__setattr__") (some (some (.builtin "object.__setattr__"))) && (decide (PySem.W.subIn K (.ref C) (.type "BaseException") = some true) && (decide (PySem.W.typeIn K (.ref C) = some (.type "type")) && PySem.W.keepIn K (.ref C))))
def excB (K : PySem.W.Frag) (D : Addr) : Bool := (eqO (PySem.W.findIn K (.ref D) "__getattribute__") (some (some (.builtin "BaseException.__getattribute__"))) && eqO (PySem.W.findIn K (.ref D) "__getattr__") (some none)) && ((decide (PySem.W.subIn K (.ref D) (.type "BaseException") = some true) && PySem.W.hasDictIn K D) &&
  ((eqO (PySem.W.findIn K (.ref D) "__class__") (some (some (.builtin "object.__class__"))) && eqO (PySem.W.specialIn K (.builtin "object.__class__") "__get__") (some (some (.builtin "getset_descriptor.__get__")))) && (decide (PySem.W.takesIn K (.builtin "object.__class__") = some true) && decide (PySem.W.mroIn K D (.type "object") = some true))))
def peB (K : PySem.W.Frag) (C : Addr) : Bool := eqO (PySem.W.specialIn K (.ref C) "__getattribute__") (some (some (.builtin "type.__getattribute__"))) && (PySem.W.readsIn K C (.type "type") && (match PySem.W.findCls K (.ref C) (.type "type") "__init__" with
  | some (.val (.builtin n)) => decide (n = "ValueError.__init__")
  | _ => false))
def ecB (K : PySem.W.Frag) (q : Str × Str) : Bool := oexB K (ga K q.1) && ((eqO (PySem.W.findIn K (.ref (ga K q.1)) "__init__") (some (some (.ref (ma K (ga K q.1) "__init__")))) && decide (PySem.W.typeIn K (.ref (ma K (ga K q.1) "__init__")) = some (.type "function"))) && eqO (PySem.W.findIn K (.ref (ga K q.1)) q.2) (some none))
def ksB (K : PySem.W.Frag) (q : Str × Str × Bool) : Bool := excB K (ga K q.1) && ((decide (PySem.W.kitOne K (.ref (ga K q.1)) (.ref (ga K q.2.1)) = some q.2.2) && decide (PySem.W.exmOne K (.ref (ga K q.1)) (.ref (ga K q.2.1)) = some q.2.2)) && decide (PySem.W.kitOne K (.type "NoneType") (.ref (ga K q.2.1)) = some false))
def errB (pe : Str) (cs : List (Str × Str)) (ks : List (Str × Str × Bool)) (K : PySem.W.Frag) : Bool := peB K (ga K pe) && (cs.all (ecB K) && ks.all (ksB K))
abbrev AlErr : Type := AlD × Bool
def obsErr (fa : List Fa) (fn : List DefD) (ex : PySem.W.Frag → Bool) (K : PySem.W.Frag) : AlErr := (obsD fa fn K, ex K)
def valErr (fn : List DefD) : AlErr := (valD fn, true)
def SaysErr (fa : List Fa) (fn : List DefD) (ex : PySem.W.Frag → Bool) (K : PySem.W.Frag) : Prop := obsErr fa fn ex K = valErr fn
def ec0B (K : PySem.W.Frag) (c : Str) : Bool := oexB K (ga K c) && (eqO (PySem.W.findIn K (.ref (ga K c)) "__init__") (some (some (.ref (ma K (ga K c) "__init__")))) && decide (PySem.W.typeIn K (.ref (ma K (ga K c) "__init__")) = some (.type "function")))
def vsB (K : PySem.W.Frag) (q : Str × String × Bool) : Bool := excB K (ga K q.1) && decide (PySem.W.kitOne K (.ref (ga K q.1)) (.type q.2.1) = some q.2.2)
def errB2 (cs : List Str) (vs : List (Str × String × Bool)) (K : PySem.W.Frag) : Bool := cs.all (ec0B K) && vs.all (vsB K)
def prP (K : PySem.W.Frag) (q : Str × Str) : Addr := ma K (ga K q.1) q.2
def prG (q : Str × Str) (K : PySem.W.Frag) : Addr := match PySem.W.recIn K (prP K q) "property" with
  | some (.ref g :: _) => g
  | _ => 0
def prB (K : PySem.W.Frag) (q : Str × Str) : Bool := eqO (PySem.W.findIn K (.ref (ga K q.1)) q.2) (some (some (.ref (prP K q)))) && (eqO (PySem.W.specialIn K (.ref (prP K q)) "__get__") (some (some (.builtin "property.__get__"))) && (decide (PySem.W.takesIn K (.ref (prP K q)) = some true) && (match PySem.W.recIn K (prP K q) "property" with
  | some (.ref _ :: _) => true
  | _ => false)))
def ciB (K : PySem.W.Frag) (q : Str × Str × Int) : Bool := PySem.W.readsIn K (ga K q.1) (.type "type") && (eqO (PySem.W.specialIn K (.ref (ga K q.1)) "__getattribute__") (some (some (.builtin "type.__getattribute__"))) && (match PySem.W.findCls K (.ref (ga K q.1)) (.type "type") q.2.1 with
  | some (.val (.int i _)) => decide (i = q.2.2)
  | _ => false))
def poolB (pr : List (Str × Str)) (co : List (Str × Str × Int)) (ap : List He5.DefA) (K : PySem.W.Frag) : Bool := pr.all (prB K) && (co.all (ciB K) && ap.all fun d => d.ok K)
abbrev AlP : Type := AlErr × List He5.FnW
def obsP (fa : List Fa) (fn : List DefD) (ex : PySem.W.Frag → Bool) (ap : List He5.DefA) (K : PySem.W.Frag) : AlP := (obsErr fa fn ex K, ap.map fun d => He5.fnA K (d.at_ K))
def valP (fn : List DefD) (ap : List He5.DefA) : AlP := (valErr fn, ap.map He5.DefA.val)
def SaysP (fa : List Fa) (fn : List DefD) (ex : PySem.W.Frag → Bool) (ap : List He5.DefA) (K : PySem.W.Frag) : Prop := obsP fa fn ex ap K = valP fn ap
def frE (n : Nat) (g : Addr → Option Obj) : PySem.W.Frag := frT g (PySem.cStatics :: asD g n)
structure SaysET (fa : List Fa) (fn : List DefD) (ex : PySem.W.Frag → Bool) (tf : List (Str × Option Str)) (h : Heap) (K : PySem.W.Frag) : Prop where
  e : SaysErr fa fn ex K
  nd : (tf.map fun p => (cT K p).2).Nodup
  hd : ∀ p ∈ tf, PySem.W.codeHdIn K (cT K p).1 (cT K p).2 = true
  out : ∀ p ∈ tf, K.lookup (cT K p).2 = none
  none : ∀ p ∈ tf, h.get? (cT K p).2 = some L3.noTab
abbrev AlETP : Type := AlP × Bool
def obsETP (n : Nat) (fa : List Fa) (fn : List DefD) (ex : PySem.W.Frag → Bool) (ap : List He5.DefA) (tf : List (Str × Option Str)) (g : Addr → Option Obj) : AlETP := (obsP fa fn ex ap (frE n g), decide ((tf.map fun p => (cT (frE n g) p).2).Nodup) && tabsB g tf (frE n g))
structure SaysETP (fa : List Fa) (fn : List DefD) (ex : PySem.W.Frag → Bool) (ap : List He5.DefA) (tf : List (Str × Option Str)) (h : Heap) (K : PySem.W.Frag) : Prop where
  e : SaysP fa fn ex ap K
  nd : (tf.map fun p => (cT K p).2).Nodup
  hd : ∀ p ∈ tf, PySem.W.codeHdIn K (cT K p).1 (cT K p).2 = true
  out : ∀ p ∈ tf, K.lookup (cT K p).2 = none
  none : ∀ p ∈ tf, h.get? (cT K p).2 = some L3.noTab
theorem saysETP_of {n : Nat} {fa : List Fa} {fn : List DefD} {ex : PySem.W.Frag → Bool} {ap : List He5.DefA} {tf : List (Str × Option Str)} {h : Heap} (e : obsETP n fa fn ex ap tf h.get? = (valP fn ap, true)) : SaysETP fa fn ex ap tf h (frE n h.get?) := by
  obtain ⟨e1, e2⟩ := Prod.mk.inj e
  obtain ⟨h1, h2⟩ := ba e2
  have all : ∀ p ∈ tf, _ := fun p hp => ba (List.all_eq_true.mp h2 p hp)
  have tab : ∀ p ∈ tf, ∃ o, h.get? (cT (frE n h.get?) p).2 = some o ∧ emptyTab o = true := fun p hp => by
    have q := (all p hp).2
    cases eo : h.get? (cT (frE n h.get?) p).2 with
    | none => rw [eo] at q; cases q
    | some o => rw [eo] at q; exact ⟨o, rfl, q⟩
  exact ⟨e1, of_decide_eq_true h1, fun p hp => (all p hp).1, fun p hp => let ⟨o, q, z⟩ := tab p hp; frT_none q z, fun p hp => let ⟨o, q, z⟩ := tab p hp; by rw [q, emptyTab_eq z]⟩
def hookETP (n : Nat) (fa : List Fa) (fn : List DefD) (ex : PySem.W.Frag → Bool) (ap : List He5.DefA) (tf : List (Str × Option Str)) : PySem.W.Hook where
  α := AlETP
  obs := fun s => obsETP n fa fn ex ap tf s.heap.get?
  val := fun _ => (valP fn ap, true)
  says := fun _ h => ∃ K : PySem.W.Frag, K.In h ∧ SaysETP fa fn ex ap tf h K
  of := fun _ _ e => ⟨_, frT_in, saysETP_of e⟩
  keeps := fun _ _ _ ⟨K, hK, c⟩ k => ⟨K, PySem.W.Frag.In.keeps hK k, c.e, c.nd, c.hd, c.out, fun p hp => k _ _ (c.none p hp)⟩
theorem obsETP_eq {n : Nat} {fa : List Fa} {fn : List DefD} {ex : PySem.W.Frag → Bool} {ap : List He5.DefA} {tf : List (Str × Option Str)} {g : Addr → Option Obj} {s : Shared} (h : ∀ a, g a = s.heap.get? a) : obsETP n fa fn ex ap tf g = (hookETP n fa fn ex ap tf).obs s := by
  have e : g = s.heap.get? := funext h
  rw [e] <;> rfl
def keB (ns : List Str) (K : PySem.W.Frag) : Bool := ns.all fun c => decide (PySem.W.exmOne K (.ref (ga K c)) (.type "KeyError") = some false)
end He
namespace Wk
open PySem PySem.Spec L2
open PyProof.Rows hiding St
def top (i : Nat) : Stmt := PySem.Challenge.pw_permitgaps_k55_trials.main.body.getD i (.Pass ⟨0, 0, 0, 0⟩)
def errC0 : List Str := ["NothingToUndo"]
def errV : List (Str × String × Bool) := [("BadPlan", "ValueError", true), ("BadSize", "ValueError", true), ("NoThread", "ValueError", true), ("NothingToUndo", "ValueError", true), ("TooMany", "ValueError", true), ("Unsafe", "ValueError", true), ("Waiting", "ValueError", true)]
def errC : List (Str × Str) := [("BadPlan", "value"), ("BadSize", "value"), ("NoThread", "value"), ("TooMany", "count"), ("Unsafe", "threads"), ("Waiting", "left")]
def errK : List (Str × Str × Bool) := ([("BadPlan", "NothingToUndo", false), ("BadPlan", "PermitError", true), ("BadPlan", "BadPlan", true), ("BadSize", "NothingToUndo", false), ("BadSize", "PermitError", true), ("BadSize", "BadSize", true), ("NoThread", "NothingToUndo", false), ("NoThread", "PermitError", true), ("NoThread", "NoThread", true), ("NothingToUndo", "NothingToUndo", true), ("NothingToUndo", "PermitError", true), ("TooMany", "NothingToUndo", false), ("TooMany", "PermitError", true), ("TooMany", "TooMany", true), ("Unsafe", "NothingToUndo", false), ("Unsafe", "PermitError", true), ("Unsafe", "Unsafe", true), ("Waiting", "NothingToUndo", false), ("Waiting", "PermitError", true), ("Waiting", "Waiting", true), ("PermitError", "PermitError", true)] : List (Str × Str × Bool))
def keE : List Str := ["BadPlan", "BadSize", "NoThread", "NothingToUndo", "TooMany", "Unsafe", "Waiting"]
abbrev s_Lstart : Stmt := top 26
abbrev s_Trial_enter : Stmt := inClass (top 23) 1
abbrev s_Trial_init : Stmt := inClass (top 23) 0
abbrev s_Trial_exit : Stmt := inClass (top 23) 2
abbrev s_rehearsed : Stmt := top 24
abbrev s_Ldraw : Stmt := top 27
abbrev s_Lchoice : Stmt := top 28
abbrev s_Lplan : Stmt := top 29
abbrev s_is_integer : Stmt := top 14
abbrev s_is_between : Stmt := top 15
abbrev s_is_plan : Stmt := top 16
abbrev s_BadPlan_init : Stmt := inClass (top 3) 0
abbrev s_check_plan : Stmt := top 17
abbrev s_Pool_go_on : Stmt := inClass (top 22) 6
abbrev s_TooMany_init : Stmt := inClass (top 5) 0
abbrev s_Pool_begin : Stmt := inClass (top 22) 7
abbrev s_NothingToUndo_init : Stmt := inClass (top 9) 0
abbrev s_Pool_undo : Stmt := inClass (top 22) 14
abbrev s_lost_among : Stmt := top 20
abbrev s_Pool_free : Stmt := inClass (top 22) 5
abbrev s_Waiting_init : Stmt := inClass (top 7) 0
abbrev s_NoThread_init : Stmt := inClass (top 6) 0
abbrev s_Pool_taken : Stmt := inClass (top 22) 8
abbrev s_Unsafe_init : Stmt := inClass (top 8) 0
abbrev s_Pool_take : Stmt := inClass (top 22) 9
abbrev s_Lsome_calls : Stmt := top 30
abbrev s_Pool_steps : Stmt := inClass (top 22) 15
abbrev s_Pool_unfinished : Stmt := inClass (top 22) 10
abbrev s_Laction : Stmt := top 32
abbrev s_BadSize_init : Stmt := inClass (top 4) 0
abbrev s_check_size : Stmt := top 18
abbrev s_Pool_init : Stmt := inClass (top 22) 1
abbrev s_Pool_copy : Stmt := inClass (top 22) 16
abbrev s_Pool_started : Stmt := inClass (top 22) 11
abbrev s_Pool_lost : Stmt := inClass (top 22) 12
abbrev s_Pool_len : Stmt := inClass (top 22) 17
abbrev s_Lseen : Stmt := top 31
abbrev s_Ltrial_right : Stmt := top 33
abbrev s_Lright : Stmt := top 34
abbrev s_law : Stmt := top 35
end Wk
namespace WkH
open PySem PySem.Spec L2 Wk
open PyProof.Rows hiding St
def d_Lstart : He.DefD := ⟨("_law_start", none), "_law_start", "_law_start", defArgs s_Lstart, defBody s_Lstart, defScope s_Lstart, [], []⟩
def d_Trial_enter : He.DefD := ⟨("Trial", some "__enter__"), "__enter__", "Trial.__enter__", defArgs s_Trial_enter, defBody s_Trial_enter, defScope s_Trial_enter, [], []⟩
def d_Trial_init : He.DefD := ⟨("Trial", some "__init__"), "__init__", "Trial.__init__", defArgs s_Trial_init, defBody s_Trial_init, defScope s_Trial_init, [], []⟩
def d_Trial_exit : He.DefD := ⟨("Trial", some "__exit__"), "__exit__", "Trial.__exit__", defArgs s_Trial_exit, defBody s_Trial_exit, defScope s_Trial_exit, [], []⟩
def d_rehearsed : He.DefD := ⟨("rehearsed", none), "rehearsed", "rehearsed", defArgs s_rehearsed, defBody s_rehearsed, defScope s_rehearsed, [], []⟩
def d_Ldraw : He.DefD := ⟨("_law_draw", none), "_law_draw", "_law_draw", defArgs s_Ldraw, defBody s_Ldraw, defScope s_Ldraw, [], []⟩
def d_Lchoice : He.DefD := ⟨("_law_choice", none), "_law_choice", "_law_choice", defArgs s_Lchoice, defBody s_Lchoice, defScope s_Lchoice, [], []⟩
def d_Lplan : He.DefD := ⟨("_law_plan", none), "_law_plan", "_law_plan", defArgs s_Lplan, defBody s_Lplan, defScope s_Lplan, [], []⟩
def d_is_integer : He.DefD := ⟨("is_integer", none), "is_integer", "is_integer", defArgs s_is_integer, defBody s_is_integer, defScope s_is_integer, [], []⟩
def d_is_between : He.DefD := ⟨("is_between", none), "is_between", "is_between", defArgs s_is_between, defBody s_is_between, defScope s_is_between, [], []⟩
def d_is_plan : He.DefD := ⟨("is_plan", none), "is_plan", "is_plan", defArgs s_is_plan, defBody s_is_plan, defScope s_is_plan, [], []⟩
def d_BadPlan_init : He.DefD := ⟨("BadPlan", some "__init__"), "__init__", "BadPlan.__init__", defArgs s_BadPlan_init, defBody s_BadPlan_init, defScope s_BadPlan_init, [], []⟩
def d_check_plan : He.DefD := ⟨("check_plan", none), "check_plan", "check_plan", defArgs s_check_plan, defBody s_check_plan, defScope s_check_plan, [], []⟩
def d_Pool_go_on : He.DefD := ⟨("Pool", some "go_on"), "go_on", "Pool.go_on", defArgs s_Pool_go_on, defBody s_Pool_go_on, defScope s_Pool_go_on, [], []⟩
def d_TooMany_init : He.DefD := ⟨("TooMany", some "__init__"), "__init__", "TooMany.__init__", defArgs s_TooMany_init, defBody s_TooMany_init, defScope s_TooMany_init, [], []⟩
def d_Pool_begin : He.DefD := ⟨("Pool", some "begin"), "begin", "Pool.begin", defArgs s_Pool_begin, defBody s_Pool_begin, defScope s_Pool_begin, [], []⟩
def d_NothingToUndo_init : He.DefD := ⟨("NothingToUndo", some "__init__"), "__init__", "NothingToUndo.__init__", defArgs s_NothingToUndo_init, defBody s_NothingToUndo_init, defScope s_NothingToUndo_init, [], []⟩
def d_Pool_undo : He.DefD := ⟨("Pool", some "undo"), "undo", "Pool.undo", defArgs s_Pool_undo, defBody s_Pool_undo, defScope s_Pool_undo, [], []⟩
def d_lost_among : He.DefD := ⟨("lost_among", none), "lost_among", "lost_among", defArgs s_lost_among, defBody s_lost_among, defScope s_lost_among, [], []⟩
def a_Pool_free : He5.DefA := ⟨He.prG ("Pool", "free"), "free", "Pool.free", defArgs s_Pool_free, defBody s_Pool_free, defScope s_Pool_free, [], []⟩
def d_Waiting_init : He.DefD := ⟨("Waiting", some "__init__"), "__init__", "Waiting.__init__", defArgs s_Waiting_init, defBody s_Waiting_init, defScope s_Waiting_init, [], []⟩
def d_NoThread_init : He.DefD := ⟨("NoThread", some "__init__"), "__init__", "NoThread.__init__", defArgs s_NoThread_init, defBody s_NoThread_init, defScope s_NoThread_init, [], []⟩
def d_Pool_taken : He.DefD := ⟨("Pool", some "taken"), "taken", "Pool.taken", defArgs s_Pool_taken, defBody s_Pool_taken, defScope s_Pool_taken, [], []⟩
def d_Unsafe_init : He.DefD := ⟨("Unsafe", some "__init__"), "__init__", "Unsafe.__init__", defArgs s_Unsafe_init, defBody s_Unsafe_init, defScope s_Unsafe_init, [], []⟩
def d_Pool_take : He.DefD := ⟨("Pool", some "take"), "take", "Pool.take", defArgs s_Pool_take, defBody s_Pool_take, defScope s_Pool_take, [], []⟩
def d_Lsome_calls : He.DefD := ⟨("_law_some_calls", none), "_law_some_calls", "_law_some_calls", defArgs s_Lsome_calls, defBody s_Lsome_calls, defScope s_Lsome_calls, [], []⟩
def d_Pool_steps : He.DefD := ⟨("Pool", some "steps"), "steps", "Pool.steps", defArgs s_Pool_steps, defBody s_Pool_steps, defScope s_Pool_steps, [], []⟩
def d_Pool_unfinished : He.DefD := ⟨("Pool", some "unfinished"), "unfinished", "Pool.unfinished", defArgs s_Pool_unfinished, defBody s_Pool_unfinished, defScope s_Pool_unfinished, [], []⟩
def d_Laction : He.DefD := ⟨("_law_action", none), "_law_action", "_law_action", defArgs s_Laction, defBody s_Laction, defScope s_Laction, [], []⟩
def d_BadSize_init : He.DefD := ⟨("BadSize", some "__init__"), "__init__", "BadSize.__init__", defArgs s_BadSize_init, defBody s_BadSize_init, defScope s_BadSize_init, [], []⟩
def d_check_size : He.DefD := ⟨("check_size", none), "check_size", "check_size", defArgs s_check_size, defBody s_check_size, defScope s_check_size, [], []⟩
def d_Pool_init : He.DefD := ⟨("Pool", some "__init__"), "__init__", "Pool.__init__", defArgs s_Pool_init, defBody s_Pool_init, defScope s_Pool_init, [], [("careful", .bl false)]⟩
def d_Pool_copy : He.DefD := ⟨("Pool", some "copy"), "copy", "Pool.copy", defArgs s_Pool_copy, defBody s_Pool_copy, defScope s_Pool_copy, [], []⟩
def d_Pool_started : He.DefD := ⟨("Pool", some "started"), "started", "Pool.started", defArgs s_Pool_started, defBody s_Pool_started, defScope s_Pool_started, [], []⟩
def d_Pool_lost : He.DefD := ⟨("Pool", some "lost"), "lost", "Pool.lost", defArgs s_Pool_lost, defBody s_Pool_lost, defScope s_Pool_lost, [], []⟩
def d_Pool_len : He.DefD := ⟨("Pool", some "__len__"), "__len__", "Pool.__len__", defArgs s_Pool_len, defBody s_Pool_len, defScope s_Pool_len, [], []⟩
def d_Lseen : He.DefD := ⟨("_law_seen", none), "_law_seen", "_law_seen", defArgs s_Lseen, defBody s_Lseen, defScope s_Lseen, [], []⟩
def d_Ltrial_right : He.DefD := ⟨("_law_trial_right", none), "_law_trial_right", "_law_trial_right", defArgs s_Ltrial_right, defBody s_Ltrial_right, defScope s_Ltrial_right, [], []⟩
def d_Lright : He.DefD := ⟨("_law_right", none), "_law_right", "_law_right", defArgs s_Lright, defBody s_Lright, defScope s_Lright, [], []⟩
def d_law : He.DefD := ⟨("law", none), "law", "law", defArgs s_law, defBody s_law, defScope s_law, [], []⟩
def ap : List He5.DefA := [a_Pool_free]
def prL : List (Str × Str) := [("Pool", "free")]
def coL : List (Str × Str × Int) := [("Pool", "MOST_THREADS", 200)]
def fn : List He.DefD := ([d_Lstart, d_Trial_enter, d_Trial_init, d_Trial_exit, d_rehearsed, d_Ldraw, d_Lchoice, d_Lplan, d_is_integer, d_is_between, d_is_plan, d_BadPlan_init, d_check_plan, d_Pool_go_on, d_TooMany_init, d_Pool_begin, d_NothingToUndo_init, d_Pool_undo, d_lost_among, d_Waiting_init, d_NoThread_init, d_Pool_taken, d_Unsafe_init, d_Pool_take, d_Lsome_calls, d_Pool_steps, d_Pool_unfinished, d_Laction, d_BadSize_init, d_check_size] : List He.DefD) ++ ([d_Pool_init, d_Pool_copy, d_Pool_started, d_Pool_lost, d_Pool_len, d_Lseen, d_Ltrial_right, d_Lright, d_law] : List He.DefD)
def fa : List He.Fa := ([.glo "_law_start", .meth "Trial" "__enter__", .glo "Trial", .mkr "Trial", .meth "Trial" "__exit__", .glo "rehearsed", .glo "_law_draw", .glo "_law_choice", .glo "_law_plan", .glo "is_integer", .glo "is_between", .glo "is_plan", .glo "check_plan", .meth "Pool" "go_on", .meth "Pool" "begin", .meth "Pool" "undo", .glo "lost_among", .meth "Pool" "taken", .meth "Pool" "take", .glo "_law_some_calls", .meth "Pool" "steps", .meth "Pool" "unfinished", .glo "_law_action", .glo "check_size", .glo "Pool", .mkr "Pool", .meth "Pool" "copy", .meth "Pool" "started", .meth "Pool" "lost", .meth "Pool" "__len__"] : List He.Fa) ++ ([.glo "_law_seen", .glo "_law_trial_right", .glo "_law_right", .glo "law", .cls "Pool", .cls "Trial", .free "KeyError", .free "abs", .free "all", .free "bool", .free "int", .free "isinstance", .free "len", .free "list", .free "max", .free "min", .free "range", .free "repr", .free "sum", .free "tuple", .glo "BadPlan", .glo "BadSize", .glo "NoThread", .glo "NothingToUndo", .glo "PermitError", .glo "TooMany", .glo "Unsafe", .glo "Waiting", .int "MOST_SIZE" 1000000000000000000000000000000, .int "MOST_TAKES" 6] : List He.Fa) ++ ([.int "MOST_TOTAL" 120, .noat "Pool" "is_careful", .noat "Pool" "past", .noat "Pool" "present", .noat "Pool" "whole", .noat "Trial" "past", .noat "Trial" "pool", .noat "Trial" "present"] : List He.Fa)
def loose : List Str := (["_wall", "PermitError", "BadPlan", "BadSize", "TooMany", "NoThread", "Waiting", "Unsafe", "NothingToUndo", "MOST_TAKES", "MOST_TOTAL", "MOST_SIZE", "is_integer", "is_between", "is_plan", "check_plan", "check_size", "lost_among", "Pool", "Trial", "rehearsed", "_law_start", "_law_draw", "_law_choice", "_law_plan", "_law_some_calls", "_law_seen", "_law_action", "_law_trial_right", "_law_right"] : List Str)
abbrev R : PySem.W.OpenRow := PySem.W.OpenLaw.row PySem.Challenge.rw_permitgaps_k55_trials
abbrev ex : PySem.W.Frag → Bool := fun K => (He.errB "PermitError" errC errK K && He.errB2 errC0 errV K && He.poolB prL coL ap K) && He.keB keE K
def tf0 : List (Str × Option Str) := [(("_law_trial_right" : Str), (none : Option Str)), (("_law_right" : Str), (none : Option Str))]
abbrev hk : PySem.W.Hook := He.hookETP 5 fa fn ex ap tf0
def ob (s : PySem.W.SharedT) : He.AlETP := He.obsETP 5 fa fn ex ap tf0 (HandSHeadRun.getT s)
theorem ob_eq (s : PySem.W.SharedT) : ob s = hk.obs s.abs := He.obsETP_eq (HandSHeadRun.getT_eq s)
theorem run (w : World) : HandSHeadRun.RunEq R (PySem.W.view R.prog [35]) hk ob 6000 loose w := by
  intro os
  kernel_rfl
end WkH
namespace L3
open PySem PySem.Spec L2
open PyProof.Rows hiding St

def exg (a C : Addr) (d : Option Addr) : HO := .ext fun h => ∃ (vs : Array Value) (sl : Array (Option Value)), h.get? a = some ({ cls := .ref C, dict := d, data := .fields vs, slots := sl } : Obj)
inductive D where
  | non | bl (b : Bool) | int (i : Int) | str (x : Str) | ty (n : String)
  | tup (ds : List D) | lst (ds : List D)
  | dK (ks : List Key) (ds : List D) | dT (ks : List (List Key)) (ds : List D)
  | ins (c : Str) (ns : List Str) (ds : List D)
  | exc (c : Str) (ns : List Str) (ds : List D)
  | scr (ns : List Int)
  | ref (k : Nat)
  | cls (c : Str)
  deriving Inhabited

def Fz (al be : List Addr) (H : Hp) (a : Addr) (u : HO) : Prop := (match u with
  | .dK _ => Rd H a u
  | .dT _ => Rd H a u
  | _ => H a = some u) ∧ a ∉ al ∧ a ∉ be
theorem Fz.rd {al be : List Addr} {H : Hp} {a : Addr} {u : HO} (h : Fz al be H a u) : Rd H a u := by
  obtain ⟨h, _⟩ := h
  cases u <;> first | exact h | exact .inl h

mutual
def RD (K : PySem.W.Frag) (al be : List Addr) (H : Hp) : D → V → Prop
  | .non, v => v = .non
  | .bl b, v => v = .bl b
  | .int i, v => v = .int i
  | .str x, v => v = .str x
  | .ty n, v => v = .ty n
  | .cls c, v => v = .ref (He.ga K c)
  | .tup ds, v => ∃ a vs, v = .ref a ∧ Fz al be H a (.tup vs) ∧ RDs K al be H ds vs
  | .lst ds, v => ∃ a vs, v = .ref a ∧ Fz al be H a (.lst vs) ∧ RDs K al be H ds vs
  | .dK ks ds, v => ∃ a kvs, v = .ref a ∧ Fz al be H a (.dK kvs) ∧ kvs.map (·.1) = ks ∧ RDs K al be H ds (kvs.map (·.2))
  | .dT ks ds, v => ∃ a kvs, v = .ref a ∧ Fz al be H a (.dT kvs) ∧ kvs.map (·.1) = ks ∧ RDs K al be H ds (kvs.map (·.2))
  | .ins c ns ds, v => ∃ a dx fs, v = .ref a ∧ Fz al be H a (.ins (He.ga K c) dx fs) ∧ fs.map (·.1) = ns ∧ RDs K al be H ds (fs.map (·.2))
  | .exc c ns ds, v => ∃ a dxo fs, v = .ref a ∧ Fz al be H a (exg a (He.ga K c) dxo) ∧ ((∀ dx, dxo = some dx → Fz al be H dx (.xd fs)) ∧ (dxo = none → fs = [])) ∧ fs.map (·.1) = ns ∧ RDs K al be H ds (fs.map (·.2))
  | .scr ns, v => ∃ a, v = .ref a ∧ (Fz al be H a (.lst (ns.map V.int)) ∨ (∃ o, Fz al be H a (.frz o (.lst (ns.map V.int)))) ∨ ∃ (o : Obj) (its : Array Value) (n : Nat), K.lookup a = some o ∧ o.cls = .type "list" ∧ o.dict = none ∧ o.data = .seq its n ∧ its.size ≤ sizeLine ∧ Vals (ns.map V.int) its.toList)
  | .ref k, v => ∃ a, al[k]? = some a ∧ v = .ref a
def RDs (K : PySem.W.Frag) (al be : List Addr) (H : Hp) : List D → List V → Prop
  | [], [] => True
  | d :: ds, v :: vs => RD K al be H d v ∧ RDs K al be H ds vs
  | _, _ => False
end

section
variable {K : PySem.W.Frag} {al al' be be' : List Addr} {H H' : Hp}
mutual
theorem RD.mono (h1 : ∀ a u, Fz al be H a u → Fz al' be' H' a u) (h2 : ∀ (k : Nat) (a : Addr), al[k]? = some a → al'[k]? = some a) : ∀ {d : D} {v : V}, RD K al be H d v → RD K al' be' H' d v
  | .non, _, h => by unfold RD at *; exact h
  | .bl _, _, h => by unfold RD at *; exact h
  | .int _, _, h => by unfold RD at *; exact h
  | .str _, _, h => by unfold RD at *; exact h
  | .ty _, _, h => by unfold RD at *; exact h
  | .cls _, _, h => by unfold RD at *; exact h
  | .tup ds, v, h => by
    unfold RD at *
    obtain ⟨a, vs, e, h, r⟩ := h
    exact ⟨a, vs, e, h1 _ _ h, RDs.mono h1 h2 r⟩
  | .lst ds, v, h => by
    unfold RD at *
    obtain ⟨a, vs, e, h, r⟩ := h
    exact ⟨a, vs, e, h1 _ _ h, RDs.mono h1 h2 r⟩
  | .scr ns, v, h => by
    unfold RD at *
    obtain ⟨a, e, h⟩ := h
    exact ⟨a, e, h.imp (h1 _ _) (fun q => q.imp (fun ⟨o, q⟩ => ⟨o, h1 _ _ q⟩) id)⟩
  | .dK ks ds, v, h => by
    unfold RD at *
    obtain ⟨a, kvs, e, h, q, r⟩ := h
    exact ⟨a, kvs, e, h1 _ _ h, q, RDs.mono h1 h2 r⟩
  | .dT ks ds, v, h => by
    unfold RD at *
    obtain ⟨a, kvs, e, h, q, r⟩ := h
    exact ⟨a, kvs, e, h1 _ _ h, q, RDs.mono h1 h2 r⟩
  | .ins c ns ds, v, h => by
    unfold RD at *
    obtain ⟨a, dx, fs, e, h, q, r⟩ := h
    exact ⟨a, dx, fs, e, h1 _ _ h, q, RDs.mono h1 h2 r⟩
  | .exc c ns ds, v, h => by
    unfold RD at *
    obtain ⟨a, dx, fs, e, h, h', q, r⟩ := h
    exact ⟨a, dx, fs, e, h1 _ _ h, ⟨fun d ed => h1 _ _ (h'.1 d ed), h'.2⟩, q, RDs.mono h1 h2 r⟩
  | .ref k, v, h => by
    unfold RD at *
    obtain ⟨a, e, q⟩ := h
    exact ⟨a, h2 _ _ e, q⟩
theorem RDs.mono (h1 : ∀ a u, Fz al be H a u → Fz al' be' H' a u) (h2 : ∀ (k : Nat) (a : Addr), al[k]? = some a → al'[k]? = some a) : ∀ {ds : List D} {vs : List V}, RDs K al be H ds vs → RDs K al' be' H' ds vs
  | [], [], h => by unfold RDs at *; exact h
  | [], _ :: _, h => by unfold RDs at h; exact h.elim
  | _ :: _, [], h => by unfold RDs at h; exact h.elim
  | d :: ds, v :: vs, h => by unfold RDs at *; exact ⟨RD.mono h1 h2 h.1, RDs.mono h1 h2 h.2⟩
end
theorem RDs.length : ∀ {ds : List D} {vs : List V}, RDs K al be H ds vs → vs.length = ds.length
  | [], [], h => rfl
  | [], _ :: _, h => by unfold RDs at h; exact h.elim
  | _ :: _, [], h => by unfold RDs at h; exact h.elim
  | d :: ds, v :: vs, h => by unfold RDs at h; simp [RDs.length h.2]
theorem RDs.nil : RDs K al be H [] [] := by unfold RDs; trivial
theorem RDs.cons {d : D} {v : V} {ds : List D} {vs : List V} (h : RD K al be H d v) (t : RDs K al be H ds vs) : RDs K al be H (d :: ds) (v :: vs) := by unfold RDs; exact ⟨h, t⟩
theorem RDs.nil_inv {vs : List V} (h : RDs K al be H [] vs) : vs = [] := by cases vs with | nil => rfl | cons _ _ => unfold RDs at h; exact h.elim
theorem RDs.cons_inv {d : D} {ds : List D} {vs : List V} (h : RDs K al be H (d :: ds) vs) : ∃ v r, vs = v :: r ∧ RD K al be H d v ∧ RDs K al be H ds r := by
  cases vs with
  | nil => unfold RDs at h; exact h.elim
  | cons v r => unfold RDs at h; exact ⟨v, r, rfl, h.1, h.2⟩
theorem RDs.append : ∀ {ds es : List D} {vs us : List V}, RDs K al be H ds vs → RDs K al be H es us → RDs K al be H (ds ++ es) (vs ++ us)
  | [], es, vs, us, h, g => by rw [h.nil_inv]; exact g
  | d :: ds, es, vs, us, h, g => by
    obtain ⟨v, r, rfl, h1, h2⟩ := h.cons_inv
    exact .cons h1 (RDs.append h2 g)
theorem RDs.get : ∀ {ds : List D} {vs : List V} {i : Nat} {d : D}, RDs K al be H ds vs → ds[i]? = some d → ∃ v, vs[i]? = some v ∧ RD K al be H d v
  | [], vs, i, d, h, e => by simp at e
  | x :: ds, vs, 0, d, h, e => by
    obtain ⟨v, r, rfl, h1, h2⟩ := h.cons_inv
    simp at e; subst e
    exact ⟨v, rfl, h1⟩
  | x :: ds, vs, i + 1, d, h, e => by
    obtain ⟨v, r, rfl, h1, h2⟩ := h.cons_inv
    obtain ⟨u, q1, q2⟩ := RDs.get (i := i) h2 (by simpa using e)
    exact ⟨u, by simpa using q1, q2⟩
theorem RDs.take : ∀ {ds : List D} {vs : List V} (n : Nat), RDs K al be H ds vs → RDs K al be H (ds.take n) (vs.take n)
  | _, _, 0, _ => by simp [RDs.nil]
  | [], vs, n + 1, h => by rw [h.nil_inv]; simp [RDs.nil]
  | d :: ds, vs, n + 1, h => by
    obtain ⟨v, r, rfl, h1, h2⟩ := h.cons_inv
    simpa using RDs.cons h1 (RDs.take n h2)
theorem RDs.drop : ∀ {ds : List D} {vs : List V} (n : Nat), RDs K al be H ds vs → RDs K al be H (ds.drop n) (vs.drop n)
  | _, _, 0, h => by simpa using h
  | [], vs, n + 1, h => by rw [h.nil_inv]; simp [RDs.nil]
  | d :: ds, vs, n + 1, h => by
    obtain ⟨v, r, rfl, h1, h2⟩ := h.cons_inv
    simpa using RDs.drop n h2
theorem RDs.set : ∀ {ds : List D} {vs : List V} (i : Nat) {d : D} {v : V}, RDs K al be H ds vs → RD K al be H d v → RDs K al be H (ds.set i d) (vs.set i v)
  | [], vs, i, _, _, h, _ => by rw [h.nil_inv]; simp [RDs.nil]
  | x :: ds, vs, 0, d, u, h, g => by
    obtain ⟨v, r, rfl, h1, h2⟩ := h.cons_inv
    simpa using RDs.cons g h2
  | x :: ds, vs, i + 1, d, u, h, g => by
    obtain ⟨v, r, rfl, h1, h2⟩ := h.cons_inv
    simpa using RDs.cons h1 (RDs.set i h2 g)
theorem RDs.ints : ∀ {ns : List Int}, RDs K al be H (ns.map D.int) (ns.map V.int)
  | [] => RDs.nil
  | n :: ns => RDs.cons (by unfold RD; rfl) (RDs.ints (ns := ns))
theorem RDs.ints_inv : ∀ {ns : List Int} {vs : List V}, RDs K al be H (ns.map D.int) vs → vs = ns.map V.int
  | [], vs, h => h.nil_inv
  | n :: ns, vs, h => by
    obtain ⟨v, r, rfl, h1, h2⟩ := RDs.cons_inv h
    unfold RD at h1
    rw [h1, RDs.ints_inv h2]; rfl
end

mutual
def nkD : D → Option NestedKey
  | .int i => some (.num i)
  | .tup ds => (nksD ds).map .tup
  | _ => none
def nksD : List D → Option (List NestedKey)
  | [] => some []
  | d :: ds => match nkD d, nksD ds with
    | some k, some ks => some (k :: ks)
    | _, _ => none
end
def seenHO (a : Addr) (xs : List (NestedKey × Addr)) : HO := .ext fun h => (a == sysModules) = false ∧ xs.length ≤ sizeLine ∧ (xs.map (·.1)).Nodup ∧ (∀ x ∈ xs, x.1.depth ≤ 8) ∧
  ∃ o es ep, h.get? a = some o ∧ o.ExactDict ∧ o.data = .dict es ep ∧ ∀ w : World, es.toList = xs.map fun x => (⟨x.1.hash w, .ref x.2, .bool true⟩ : DictEntry)
inductive MO where
  | lst (ds : List D)
  | dK (kvs : List (Key × D))
  | dT (kvs : List (List Key × D))
  | ins (c : Str) (fs : List (Str × D))
  | tab (q : Str × Str × Option Str)
  | sn (ks : List D)
  deriving Inhabited
abbrev Sto := List MO

def RK {κ : Type} (K : PySem.W.Frag) (al be : List Addr) (H : Hp) (kvs : List (κ × D)) (vs : List (κ × V)) : Prop := vs.map (·.1) = kvs.map (·.1) ∧ RDs K al be H (kvs.map (·.2)) (vs.map (·.2))
theorem RK.mono {κ : Type} {K : PySem.W.Frag} {al al' be be' : List Addr} {H H' : Hp} {kvs : List (κ × D)} {vs : List (κ × V)} (h1 : ∀ a u, Fz al be H a u → Fz al' be' H' a u) (h2 : ∀ (k : Nat) (a : Addr), al[k]? = some a → al'[k]? = some a) (h : RK K al be H kvs vs) : RK K al' be' H' kvs vs := ⟨h.1, h.2.mono h1 h2⟩
def RO (K : PySem.W.Frag) (al be : List Addr) (H : Hp) (a : Addr) : MO → Prop
  | .lst ds => ∃ vs, H a = some (.lst vs) ∧ RDs K al be H ds vs
  | .dK kvs => ∃ vs, H a = some (.dK vs) ∧ RK K al be H kvs vs
  | .dT kvs => ∃ vs, H a = some (.dT vs) ∧ RK K al be H kvs vs
  | .ins c fs => ∃ dx vs, H a = some (.ins (He.ga K c) dx vs) ∧ RK K al be H fs vs
  | .tab q => a = (He.cT K q.2).2 ∧ ∃ ps : Array Value, H a = some (.tbl ps) ∧ TriplesOk ps.toList ∧ ∀ (pos : Pos) (cv : Value), codeAmong pos ps.toList = some cv → ∃ c, cv = .ref c ∧ Fz al be H c (LamX.CodeO c q.1)
  | .sn ks => ∃ xs : List (NestedKey × Addr), H a = some (seenHO a xs) ∧ RDs K al be H ks (xs.map fun x => V.ref x.2) ∧ ks.map nkD = xs.map fun x => some x.1
theorem RO.there {K : PySem.W.Frag} {al be : List Addr} {H : Hp} {a : Addr} {o : MO} (h : RO K al be H a o) : ∃ u, H a = some u := by
  cases o with
  | lst ds => exact ⟨_, h.choose_spec.1⟩
  | dK kvs => exact ⟨_, h.choose_spec.1⟩
  | dT kvs => exact ⟨_, h.choose_spec.1⟩
  | ins c fs => exact ⟨_, h.choose_spec.choose_spec.1⟩
  | tab q => exact ⟨_, h.2.choose_spec.1⟩
  | sn ks => exact ⟨_, h.choose_spec.1⟩
theorem RO.mono {K : PySem.W.Frag} {al al' be be' : List Addr} {H H' : Hp} {a : Addr} {o : MO} (h1 : ∀ a u, Fz al be H a u → Fz al' be' H' a u) (h2 : ∀ (k : Nat) (a : Addr), al[k]? = some a → al'[k]? = some a) (h3 : ∀ u, H a = some u → H' a = some u) (h : RO K al be H a o) : RO K al' be' H' a o := by
  cases o with
  | lst ds => obtain ⟨vs, e, r⟩ := h; exact ⟨vs, h3 _ e, r.mono h1 h2⟩
  | dK kvs => obtain ⟨vs, e, r⟩ := h; exact ⟨vs, h3 _ e, r.mono h1 h2⟩
  | dT kvs => obtain ⟨vs, e, r⟩ := h; exact ⟨vs, h3 _ e, r.mono h1 h2⟩
  | ins c fs => obtain ⟨dx, vs, e, r⟩ := h; exact ⟨dx, vs, h3 _ e, r.mono h1 h2⟩
  | tab q => obtain ⟨ea, ps, e, t, r⟩ := h; exact ⟨ea, ps, h3 _ e, t, fun pos cv hc => let ⟨c, e1, e2⟩ := r pos cv hc; ⟨c, e1, h1 _ _ e2⟩⟩
  | sn ks => obtain ⟨xs, e, r, q⟩ := h; exact ⟨xs, h3 _ e, r.mono h1 h2, q⟩

def NoTup (u : HO) : Prop := ∀ vs, u ≠ .tup vs
structure SS (K : PySem.W.Frag) (al be : List Addr) (H : Hp) (m : Sto) : Prop where
  len : al.length = m.length
  nd : al.Nodup
  obj : ∀ (k : Nat) (a : Addr) (o : MO), al[k]? = some a → m[k]? = some o → RO K al be H a o
  tr : ∀ a ∈ be, ∃ u, H a = some u ∧ NoTup u
  dis : ∀ a ∈ al, a ∉ be
abbrev Sl := List (Option D)
structure SL (K : PySem.W.Frag) (al be : List Addr) (H : Hp) (σ : St) (en : Sl) : Prop where
  len : σ.length = en.length
  get : ∀ (i : Nat) (d : D), en[i]? = some (some d) → ∃ v, σ[i]? = some (some v) ∧ RD K al be H d v
structure Chg (al : List Addr) (H : Hp) (al' : List Addr) (H' : Hp) : Prop where
  pre : ∃ more, al' = al ++ more
  keep : ∀ a u, H a = some u → a ∉ al → H' a = some u
  new : ∀ a ∈ al', a ∉ al → H a = none

section
variable {K : PySem.W.Frag} {al al' al'' be : List Addr} {H H' H'' : Hp} {m m' : Sto} {σ σ' : St} {en en' : Sl}
theorem SS.there (s : SS K al be H m) {a : Addr} (h : a ∈ al) : ∃ u, H a = some u := by
  obtain ⟨k, hk, e⟩ := List.mem_iff_getElem.mp h
  have hm : k < m.length := by rw [← s.len]; exact hk
  exact (s.obj k a m[k] (by rw [List.getElem?_eq_getElem hk, e]) (List.getElem?_eq_getElem hm)).there
theorem SS.notNew (s : SS K al be H m) {p : Addr} (h : H p = none) : p ∉ al ∧ p ∉ be := by
  constructor
  · intro q; obtain ⟨u, e⟩ := s.there q; rw [h] at e; cases e
  · intro q; obtain ⟨u, e, _⟩ := s.tr p q; rw [h] at e; cases e
theorem Chg.refl : Chg al H al H := ⟨⟨[], by simp⟩, fun _ _ h _ => h, fun _ h n => absurd h n⟩
theorem Chg.trans (a : Chg al H al' H') (b : Chg al' H' al'' H'') : Chg al H al'' H'' where
  pre := by obtain ⟨x, rfl⟩ := a.pre; obtain ⟨y, rfl⟩ := b.pre; exact ⟨x ++ y, by simp⟩
  keep := fun c u e n => by
    refine b.keep c u (a.keep c u e n) fun q => ?_
    have := a.new c q n
    rw [e] at this; cases this
  new := fun c q n => by
    by_cases h : c ∈ al'
    · exact a.new c h n
    · have := b.new c q h
      cases e : H c with
      | none => rfl
      | some u => rw [a.keep c u e n] at this; cases this
theorem Chg.fz (c : Chg al H al' H') {a : Addr} {u : HO} (h : Fz al be H a u) : Fz al' be H' a u := by
  have rr := h.rd
  obtain ⟨r, n, nb⟩ := h
  have nn : a ∉ al' := fun q => by
    have := c.new a q n
    rcases rr with r | ⟨o, r⟩ <;> rw [r] at this <;> cases this
  refine ⟨?_, nn, nb⟩
  have kr : ∀ u, Rd H a u → Rd H' a u := fun u r => by
    rcases r with r | ⟨o, r⟩
    · exact .inl (c.keep _ _ r n)
    · exact .inr ⟨o, c.keep _ _ r n⟩
  cases u <;> first | exact kr _ r | exact c.keep _ _ r n
theorem Chg.ix (c : Chg al H al' H') {k : Nat} {a : Addr} (h : al[k]? = some a) : al'[k]? = some a := by
  obtain ⟨x, rfl⟩ := c.pre
  rw [List.getElem?_append_left (List.getElem?_eq_some_iff.mp h).1]
  exact h
theorem Chg.rd (c : Chg al H al' H') {d : D} {v : V} (h : RD K al be H d v) : RD K al' be H' d v := h.mono (fun _ _ q => c.fz q) fun _ _ q => c.ix q
theorem Chg.rds (c : Chg al H al' H') {d : List D} {v : List V} (h : RDs K al be H d v) : RDs K al' be H' d v := h.mono (fun _ _ q => c.fz q) fun _ _ q => c.ix q
theorem SL.chg (s : SL K al be H σ en) (c : Chg al H al' H') : SL K al' be H' σ en := ⟨s.len, fun i d e => let ⟨v, e1, r⟩ := s.get i d e; ⟨v, e1, c.rd r⟩⟩
theorem SS.ext (s : SS K al be H m) (k : ∀ a u, H a = some u → H' a = some u) : SS K al be H' m :=
  ⟨s.len, s.nd, fun i a o e1 e2 => (s.obj i a o e1 e2).mono (fun b u h => ⟨by
    have kr : ∀ u, Rd H b u → Rd H' b u := fun u r => r.imp (k _ _) fun ⟨o, q⟩ => ⟨o, k _ _ q⟩
    obtain ⟨r, _⟩ := h
    cases u <;> first | exact kr _ r | exact k _ _ r, h.2⟩) (fun _ _ q => q) (k a), fun a h => let ⟨u, e, nt⟩ := s.tr a h; ⟨u, k _ _ e, nt⟩, s.dis⟩
theorem Chg.ext (k : ∀ a u, H a = some u → H' a = some u) : Chg al H al H' := ⟨⟨[], by simp⟩, fun a u e _ => k a u e, fun _ h n => absurd h n⟩
theorem ext_upd {p : Addr} {o : HO} (h : H p = none) : ∀ a u, H a = some u → upd H p o a = some u := fun a u e => by
  rw [upd_ne (ne_of_none e h)]; exact e
theorem SS.push {p : Addr} {o : HO} {mo : MO} (s : SS K al be H m) (h : H p = none) (r : RO K (al ++ [p]) be (upd H p o) p mo) : SS K (al ++ [p]) be (upd H p o) (m ++ [mo]) := by
  obtain ⟨n1, n2⟩ := s.notNew h
  have c : Chg al H (al ++ [p]) (upd H p o) := ⟨⟨[p], rfl⟩, fun a u e _ => ext_upd h a u e, fun a q n => by
    rcases List.mem_append.mp q with q | q
    · exact absurd q n
    · rw [List.mem_singleton.mp q]; exact h⟩
  refine ⟨by simp [s.len], ?_, fun k a q e1 e2 => ?_, fun a q => ?_, fun a q => ?_⟩
  · rw [List.nodup_append]
    refine ⟨s.nd, by simp, ?_⟩
    intro a ha b hb e
    rw [List.mem_singleton.mp hb] at e
    exact n1 (e ▸ ha)
  · by_cases hk : k < al.length
    · rw [List.getElem?_append_left hk] at e1
      rw [List.getElem?_append_left (by rw [← s.len]; exact hk)] at e2
      exact (s.obj k a q e1 e2).mono (fun _ _ q => c.fz q) (fun _ _ q => c.ix q) fun u e => ext_upd h a u e
    · rw [List.getElem?_append_right (by omega)] at e1
      rw [List.getElem?_append_right (by rw [← s.len]; omega)] at e2
      rw [← s.len] at e2
      have z : k - al.length = 0 := by
        have := (List.getElem?_eq_some_iff.mp e1).1
        simp at this; exact this
      rw [z] at e1 e2
      simp at e1 e2
      subst e1 e2
      exact r
  · obtain ⟨u, e, nt⟩ := s.tr a q
    exact ⟨u, ext_upd h a u e, nt⟩
  · rcases List.mem_append.mp q with q | q
    · exact s.dis a q
    · rw [List.mem_singleton.mp q]; exact n2
theorem Chg.push {p : Addr} {o : HO} (h : H p = none) : Chg al H (al ++ [p]) (upd H p o) := ⟨⟨[p], rfl⟩, fun a u e _ => ext_upd h a u e, fun a q n => by
    rcases List.mem_append.mp q with q | q
    · exact absurd q n
    · rw [List.mem_singleton.mp q]; exact h⟩
theorem Chg.write {k : Nat} {a : Addr} {o : HO} (e : al[k]? = some a) : Chg al H al (upd H a o) :=
  ⟨⟨[], by simp⟩, fun b u q n => by rw [upd_ne (show b ≠ a from fun z => n (by rw [z]; exact List.mem_of_getElem? e))]; exact q, fun _ h n => absurd h n⟩
theorem nodup_get {al : List Addr} (h : al.Nodup) {i j : Nat} {a : Addr} (hi : al[i]? = some a) (hj : al[j]? = some a) : i = j := by
  obtain ⟨h1, e1⟩ := List.getElem?_eq_some_iff.mp hi
  obtain ⟨h2, e2⟩ := List.getElem?_eq_some_iff.mp hj
  exact (List.getElem_inj h).mp (e1.trans e2.symm)
theorem SS.write {k : Nat} {a : Addr} {o : HO} {mo : MO} (s : SS K al be H m) (e : al[k]? = some a) (r : RO K al be (upd H a o) a mo) : SS K al be (upd H a o) (m.set k mo) := by
  have c : Chg al H al (upd H a o) := Chg.write e
  refine ⟨by simp [s.len], s.nd, fun i b q e1 e2 => ?_, fun b q => ?_, s.dis⟩
  · by_cases hi : i = k
    · subst hi
      rw [e] at e1; cases e1
      have hk : i < m.length := by rw [← s.len]; exact (List.getElem?_eq_some_iff.mp e).1
      rw [List.getElem?_set_self hk] at e2; cases e2
      exact r
    · rw [List.getElem?_set_ne (Ne.symm hi)] at e2
      have nb : b ≠ a := fun z => hi (nodup_get s.nd (z ▸ e1) e)
      exact (s.obj i b q e1 e2).mono (fun _ _ q => c.fz q) (fun _ _ q => c.ix q) fun u z => by rw [upd_ne nb]; exact z
  · obtain ⟨u, z, nt⟩ := s.tr b q
    exact ⟨u, by rw [upd_ne (show b ≠ a from fun y => s.dis a (List.mem_of_getElem? e) (by rw [← y]; exact q))]; exact z, nt⟩
theorem SL.set (s : SL K al be H σ en) {d : D} {v : V} (i : Nat) (r : RD K al be H d v) : SL K al be H (σ.set i (some v)) (en.set i (some d)) := by
  refine ⟨by simp [s.len], fun j e h => ?_⟩
  by_cases hj : j = i
  · subst hj
    have hl : j < en.length := by
      have := (List.getElem?_eq_some_iff.mp h).1
      simpa using this
    rw [List.getElem?_set_self hl] at h
    cases h
    exact ⟨v, List.getElem?_set_self (by rw [s.len]; exact hl), r⟩
  · rw [List.getElem?_set_ne (Ne.symm hj)] at h
    rw [List.getElem?_set_ne (Ne.symm hj)]
    exact s.get j e h
theorem SL.clear (s : SL K al be H σ en) (i : Nat) : SL K al be H (σ.set i none) (en.set i none) := by
  refine ⟨by simp [s.len], fun j e h => ?_⟩
  by_cases hj : j = i
  · subst hj
    have hl : j < en.length := by
      have := (List.getElem?_eq_some_iff.mp h).1
      simpa using this
    rw [List.getElem?_set_self hl] at h
    cases h
  · rw [List.getElem?_set_ne (Ne.symm hj)] at h
    rw [List.getElem?_set_ne (Ne.symm hj)]
    exact s.get j e h
end

structure Exn where
  c : Str
  ns : List Str
  ds : List D
inductive Out (β : Type) where
  | ok (b : β) (m : Sto)
  | ex (x : Exn) (m : Sto)
  | bad
def Out.bind {β γ : Type} (o : Out β) (f : β → Sto → Out γ) : Out γ := match o with
  | .ok b m => f b m
  | .ex x m => .ex x m
  | .bad => .bad
@[simp] theorem Out.bind_ok {β γ : Type} (b : β) (m : Sto) (f : β → Sto → Out γ) : (Out.ok b m).bind f = f b m := rfl
@[simp] theorem Out.bind_ex {β γ : Type} (b : Exn) (m : Sto) (f : β → Sto → Out γ) : (Out.ex b m).bind f = .ex b m := rfl
@[simp] theorem Out.bind_bad {β γ : Type} (f : β → Sto → Out γ) : (Out.bad : Out β).bind f = .bad := rfl
def RXo (K : PySem.W.Frag) (al be : List Addr) (H : Hp) (cls : Value) (dx : Option Addr) (x : Exn) : Prop :=
  cls = .ref (He.ga K x.c) ∧ match dx with
    | some d => ∃ fs, Fz al be H d (.xd fs) ∧ fs.map (·.1) = x.ns ∧ RDs K al be H x.ds (fs.map (·.2))
    | none => x.ns = [] ∧ x.ds = []
def RX (K : PySem.W.Frag) (al be : List Addr) (H : Hp) (cls : Value) (dx : Option Addr) (x : Exn) : Prop := if x.c = "KeyError" then cls = .type "KeyError" else RXo K al be H cls dx x
theorem RX.own {K : PySem.W.Frag} {al be : List Addr} {H : Hp} {cls : Value} {dx : Option Addr} {x : Exn} (h : RX K al be H cls dx x) (hk : x.c ≠ "KeyError") : RXo K al be H cls dx x := by
  unfold RX at h
  rwa [if_neg hk] at h
theorem RX.mk {K : PySem.W.Frag} {al be : List Addr} {H : Hp} {cls : Value} {dx : Option Addr} {x : Exn} (hk : x.c ≠ "KeyError") (h : RXo K al be H cls dx x) : RX K al be H cls dx x := by
  unfold RX
  rwa [if_neg hk]
theorem RX.key {K : PySem.W.Frag} {al be : List Addr} {H : Hp} {cls : Value} {dx : Option Addr} {x : Exn} (h : RX K al be H cls dx x) (hk : x.c = "KeyError") : cls = .type "KeyError" := by
  unfold RX at h
  rwa [if_pos hk] at h
theorem RX.mkKey {K : PySem.W.Frag} {al be : List Addr} {H : Hp} {dx : Option Addr} {x : Exn} (hk : x.c = "KeyError") : RX K al be H (.type "KeyError") dx x := by
  unfold RX
  rw [if_pos hk]
def Post {β : Type} (K : PySem.W.Frag) (al be : List Addr) (H : Hp) (E : XK) (o : Out β) (R : β → List Addr → Hp → Sto → Prop) : Prop := match o with
  | .ok b m' => ∀ al' H', Chg al H al' H' → SS K al' be H' m' → R b al' H' m'
  | .ex x m' => ∀ al' H' c dx, Chg al H al' H' → SS K al' be H' m' → RX K al' be H' c dx x → E c dx H'
  | .bad => False
theorem Post.bind {β γ : Type} {K : PySem.W.Frag} {al be : List Addr} {H : Hp} {E : XK} {o : Out β} {f : β → Sto → Out γ} {R : γ → List Addr → Hp → Sto → Prop} {R' : β → List Addr → Hp → Sto → Prop} (h : Post K al be H E (o.bind f) R)
    (k : ∀ b al' H' m', Chg al H al' H' → SS K al' be H' m' → Post K al' be H' E (f b m') R → R' b al' H' m') : Post K al be H E o R' := by
  cases o with
  | ok b m' =>
    intro al' H' c s
    refine k b al' H' m' c s ?_
    simp only [Out.bind_ok] at h
    cases e : f b m' with
    | ok b2 m2 => rw [e] at h; exact fun al2 H2 c2 s2 => h al2 H2 (c.trans c2) s2
    | ex x m2 => rw [e] at h; exact fun al2 H2 cl dx c2 s2 r => h al2 H2 cl dx (c.trans c2) s2 r
    | bad => rw [e] at h; exact h
  | ex x m' => exact h
  | bad => exact h
theorem Post.mono {β : Type} {K : PySem.W.Frag} {al be : List Addr} {H : Hp} {E : XK} {o : Out β} {R R' : β → List Addr → Hp → Sto → Prop} (h : Post K al be H E o R)
    (k : ∀ b al' H' m', Chg al H al' H' → SS K al' be H' m' → R b al' H' m' → R' b al' H' m') : Post K al be H E o R' := by
  cases o with
  | ok b m' => exact fun al' H' c s => k b al' H' m' c s (h al' H' c s)
  | ex x m' => exact h
  | bad => exact h
theorem Post.now {β : Type} {K : PySem.W.Frag} {al be : List Addr} {H : Hp} {E : XK} {b : β} {m : Sto} {R : β → List Addr → Hp → Sto → Prop} (h : Post K al be H E (.ok b m) R) (s : SS K al be H m) : R b al H m := h al H .refl s

abbrev GE := Sl → Sto → Out D
abbrev GB := Sl → Sto → Out Bool
abbrev GA := Sl → Sto → Out (List D)
def tG (K : PySem.W.Frag) (E : XK) (g : GE) : TE := fun σ H Q => ∃ al be m en, SS K al be H m ∧ SL K al be H σ en ∧
  Post K al be H E (g en m) fun d al' H' _ => ∀ v, RD K al' be H' d v → Q v H'
def tGs (K : PySem.W.Frag) (E : XK) (g : GA) : TA := fun σ H Q => ∃ al be m en, SS K al be H m ∧ SL K al be H σ en ∧
  Post K al be H E (g en m) fun d al' H' _ => ∀ v, RDs K al' be H' d v → Q v H'
def tB3 (K : PySem.W.Frag) (E : XK) (g : GB) : TT := fun σ H Q => ∃ al be m en, SS K al be H m ∧ SL K al be H σ en ∧
  Post K al be H E (g en m) fun b _ H' _ => Q b H'
inductive SO where
  | nx (en : Sl) (m : Sto)
  | rt (d : D) (m : Sto)
  | bk (en : Sl) (m : Sto)
  | ct (en : Sl) (m : Sto)
  | ex (x : Exn) (m : Sto)
  | bad
abbrev GS := Sl → Sto → SO
def PostS (K : PySem.W.Frag) (al be : List Addr) (H : Hp) (E : XK) (o : SO) (D : Ends) : Prop := match o with
  | .nx en m' => ∀ al' H' σ', Chg al H al' H' → SS K al' be H' m' → SL K al' be H' σ' en → D.nx σ' H'
  | .rt d m' => ∀ al' H' v, Chg al H al' H' → SS K al' be H' m' → RD K al' be H' d v → D.rt v H'
  | .bk en m' => ∀ al' H' σ', Chg al H al' H' → SS K al' be H' m' → SL K al' be H' σ' en → D.bk σ' H'
  | .ct en m' => ∀ al' H' σ', Chg al H al' H' → SS K al' be H' m' → SL K al' be H' σ' en → D.ct σ' H'
  | .ex x m' => ∀ al' H' c dx, Chg al H al' H' → SS K al' be H' m' → RX K al' be H' c dx x → E c dx H'
  | .bad => False
def tS (K : PySem.W.Frag) (E : XK) (g : GS) : TS := fun D σ H => ∃ al be m en, SS K al be H m ∧ SL K al be H σ en ∧ PostS K al be H E (g en m) D
theorem PostS.chg {K : PySem.W.Frag} {al be al' : List Addr} {H H' : Hp} {E : XK} {o : SO} {D : Ends} (h : PostS K al be H E o D) (c : Chg al H al' H') : PostS K al' be H' E o D := by
  cases o with
  | nx en m => exact fun a2 H2 σ c2 => h a2 H2 σ (c.trans c2)
  | rt d m => exact fun a2 H2 σ c2 => h a2 H2 σ (c.trans c2)
  | bk en m => exact fun a2 H2 σ c2 => h a2 H2 σ (c.trans c2)
  | ct en m => exact fun a2 H2 σ c2 => h a2 H2 σ (c.trans c2)
  | ex x m => exact fun a2 H2 cl dx c2 => h a2 H2 cl dx (c.trans c2)
  | bad => exact h
theorem Post.chg {β : Type} {K : PySem.W.Frag} {al be al' : List Addr} {H H' : Hp} {E : XK} {o : Out β} {R : β → List Addr → Hp → Sto → Prop} (h : Post K al be H E o R) (c : Chg al H al' H') : Post K al' be H' E o R := by
  cases o with
  | ok en m => exact fun a2 H2 c2 => h a2 H2 (c.trans c2)
  | ex x m => exact fun a2 H2 cl dx c2 => h a2 H2 cl dx (c.trans c2)
  | bad => exact h

section
variable {X : Cx} {e : Expr} {es : List Expr} {st : Stmt} {sts : List Stmt}
theorem peImp {t t' : TE} (h : PE X e t) (k : ∀ σ H Q, t' σ H Q → t σ H Q) : PE X e t' := ⟨fun pins s σ H Q I q => h.run pins s σ H Q I (k _ _ _ q)⟩
theorem ptImp {t t' : TT} (h : PT X e t) (k : ∀ σ H Q, t' σ H Q → t σ H Q) : PT X e t' := ⟨fun pins s σ H Q I q => h.run pins s σ H Q I (k _ _ _ q)⟩
theorem pwImp {t t' : TT} (h : PW X e t) (k : ∀ σ H Q, t' σ H Q → t σ H Q) : PW X e t' := ⟨fun wh pins s σ H Q I q => h.run wh pins s σ H Q I (k _ _ _ q)⟩
theorem paImp {t t' : TA} (h : PA X es t) (k : ∀ σ H Q, t' σ H Q → t σ H Q) : PA X es t' := ⟨fun pos pins s σ H Q I q => h.run pos pins s σ H Q I (k _ _ _ q)⟩
theorem psImp {t t' : TS} (h : PS X st t) (k : ∀ D σ H, t' D σ H → t D σ H) : PS X st t' := ⟨fun pins s σ H D I q => h.run pins s σ H D I (k _ _ _ q)⟩
theorem pssImp {t t' : TS} (h : PSs X sts t) (k : ∀ D σ H, t' D σ H → t D σ H) : PSs X sts t' := ⟨fun pins s σ H D I q => h.run pins s σ H D I (k _ _ _ q)⟩
end

abbrev DE (X : Cx) (E : XK) (e : Expr) (g : GE) : Prop := PE X e (tG X.K E g)
abbrev DA (X : Cx) (E : XK) (es : List Expr) (g : GA) : Prop := PA X es (tGs X.K E g)
abbrev DB (X : Cx) (E : XK) (e : Expr) (g : GB) : Prop := PT X e (tB3 X.K E g)
abbrev DW (X : Cx) (E : XK) (e : Expr) (g : GB) : Prop := PW X e (tB3 X.K E g)
abbrev DS (X : Cx) (E : XK) (s : Stmt) (g : GS) : Prop := PS X s (tS X.K E g)
abbrev DSs (X : Cx) (E : XK) (s : List Stmt) (g : GS) : Prop := PSs X s (tS X.K E g)
end L3
namespace L3
open PySem PySem.Spec L2
open PyProof.Rows hiding St

section
variable {K : PySem.W.Frag} {al be : List Addr} {H : Hp} {m : Sto} {v : V}
theorem rd_non : RD K al be H .non v ↔ v = .non := by unfold RD; exact Iff.rfl
theorem rd_bl {b : Bool} : RD K al be H (.bl b) v ↔ v = .bl b := by unfold RD; exact Iff.rfl
theorem rd_int {i : Int} : RD K al be H (.int i) v ↔ v = .int i := by unfold RD; exact Iff.rfl
theorem rd_str {x : Str} : RD K al be H (.str x) v ↔ v = .str x := by unfold RD; exact Iff.rfl
theorem rd_ty {x : String} : RD K al be H (.ty x) v ↔ v = .ty x := by unfold RD; exact Iff.rfl
theorem rd_ref {k : Nat} : RD K al be H (.ref k) v ↔ ∃ a, al[k]? = some a ∧ v = .ref a := by unfold RD; exact Iff.rfl
theorem rd_scr {ns : List Int} (h : RD K al be H (.scr ns) v) : ∃ a, v = .ref a ∧ SqL K H a (ns.map V.int) := by
  unfold RD at h
  obtain ⟨a, e, h⟩ := h
  refine ⟨a, e, ?_⟩
  rcases h with h | ⟨o, h⟩ | h
  · exact .inl h.rd
  · exact .inl (.inr ⟨o, h.1⟩)
  · exact .inr h
theorem rd_tup {ds : List D} (h : RD K al be H (.tup ds) v) : ∃ a vs, v = .ref a ∧ SqT K H a vs ∧ RDs K al be H ds vs := by
  unfold RD at h
  obtain ⟨a, vs, e, h, r⟩ := h
  exact ⟨a, vs, e, .inl h.rd, r⟩
theorem rd_tupD {ds : List D} (h : RD K al be H (.tup ds) v) : ∃ a vs, v = .ref a ∧ H a = some (.tup vs) ∧ RDs K al be H ds vs := by
  unfold RD at h
  obtain ⟨a, vs, e, h, r⟩ := h
  exact ⟨a, vs, e, h.1, r⟩
theorem rd_lst {ds : List D} (h : RD K al be H (.lst ds) v) : ∃ a vs, v = .ref a ∧ H a = some (.lst vs) ∧ RDs K al be H ds vs := by
  unfold RD at h
  obtain ⟨a, vs, e, h, r⟩ := h
  exact ⟨a, vs, e, h.1, r⟩
theorem rd_newTup {p : Addr} {ds : List D} {vs : List V} (s : SS K al be H m) (hp : H p = none) (r : RDs K al be H ds vs) : RD K al be (upd H p (.tup vs)) (.tup ds) (.ref p) := by
  unfold RD
  obtain ⟨n1, n2⟩ := s.notNew hp
  refine ⟨p, vs, rfl, ⟨upd_same, n1, n2⟩, ?_⟩
  exact (Chg.ext (ext_upd hp)).rds r
theorem rd_newLst {p : Addr} {ds : List D} {vs : List V} (s : SS K al be H m) (hp : H p = none) (r : RDs K al be H ds vs) : RD K al be (upd H p (.lst vs)) (.lst ds) (.ref p) := by
  unfold RD
  obtain ⟨n1, n2⟩ := s.notNew hp
  refine ⟨p, vs, rfl, ⟨upd_same, n1, n2⟩, ?_⟩
  exact (Chg.ext (ext_upd hp)).rds r
theorem SS.upd {p : Addr} {o : HO} (s : SS K al be H m) (hp : H p = none) : SS K al be (L2.upd H p o) m := s.ext (ext_upd hp)
theorem SS.store {k : Nat} {o : MO} (s : SS K al be H m) (e : m[k]? = some o) : ∃ a, al[k]? = some a ∧ RO K al be H a o := by
  have hk : k < al.length := by rw [s.len]; exact (List.getElem?_eq_some_iff.mp e).1
  exact ⟨_, List.getElem?_eq_getElem hk, s.obj k _ o (List.getElem?_eq_getElem hk) e⟩
end

def lstOf (m : Sto) : D → Option (List D)
  | .lst ds => some ds
  | .ref k => match m[k]? with
    | some (.lst ds) => some ds
    | _ => none
  | _ => none
def tupOf : D → Option (List D)
  | .tup ds => some ds
  | _ => none
def seqOf (m : Sto) : D → Option (List D)
  | .tup ds => some ds
  | .scr ns => some (ns.map D.int)
  | d => lstOf m d
section
variable {K : PySem.W.Frag} {al be : List Addr} {H : Hp} {m : Sto} {v : V} {d : D} {ds : List D}
theorem lstOf_ok (s : SS K al be H m) (r : RD K al be H d v) (h : lstOf m d = some ds) : ∃ a vs, v = .ref a ∧ H a = some (.lst vs) ∧ RDs K al be H ds vs := by
  unfold lstOf at h
  split at h
  · cases h; exact rd_lst r
  · split at h
    · rename_i e
      cases h
      obtain ⟨a, ea, ro⟩ := s.store e
      obtain ⟨b, eb, rfl⟩ := rd_ref.mp r
      rw [ea] at eb; cases eb
      obtain ⟨vs, hv, rv⟩ := ro
      exact ⟨a, vs, rfl, hv, rv⟩
    · cases h
  · cases h
theorem tupOf_ok (r : RD K al be H d v) (h : tupOf d = some ds) : ∃ a vs, v = .ref a ∧ SqT K H a vs ∧ RDs K al be H ds vs := by
  cases d <;> simp only [tupOf] at h <;> first | (cases h; exact rd_tup r) | cases h
theorem seqOf_ok (s : SS K al be H m) (r : RD K al be H d v) (h : seqOf m d = some ds) : ∃ a vs, v = .ref a ∧ (SqL K H a vs ∨ SqT K H a vs) ∧ RDs K al be H ds vs := by
  unfold seqOf at h
  split at h
  · cases h
    obtain ⟨a, vs, e, q, r⟩ := rd_tup r
    exact ⟨a, vs, e, .inr q, r⟩
  · cases h
    obtain ⟨a, e, q⟩ := rd_scr r
    exact ⟨a, _, e, .inl q, RDs.ints⟩
  · obtain ⟨a, vs, e, q, r⟩ := lstOf_ok s r h
    exact ⟨a, vs, e, .inl (SqL.of q), r⟩
end

def gVar (i : Nat) : GE := fun en m => match en[i]? with
  | some (some d) => .ok d m
  | _ => .bad
def gC (d : D) : GE := fun _ m => .ok d m
section
variable {X : Cx} {E : XK} {pos : Pos}
theorem tvar_imp {i : Nat} : ∀ σ H Q, tG X.K E (gVar i) σ H Q → tVar i σ H Q := fun σ H Q ⟨al, be, m, en, s, l, h⟩ => by
  unfold gVar at h
  split at h
  · rename_i d e
    obtain ⟨v, ev, r⟩ := l.get i d e
    exact ⟨v, ev, h.now s v r⟩
  · exact h.elim
theorem de_var (i : Nat) {x : Str} (hN : X.N[i]? = some x := by rfl) (hv : Vis X.env.scope x := by first | exact Or.inl rfl | exact Or.inr (Or.inl rfl) | exact Or.inr (Or.inr rfl)) (hd : (x == ("__debug__" : Str)) = false := by decide) (hcd : (x == ("__classdict__" : Str)) = false := by decide) : DE X E (.Name x pos) (gVar i) :=
  peImp (pe_var hN hv hd hcd) tvar_imp
theorem tc_imp {d : D} {v : V} (h0 : ∀ al be H, RD X.K al be H d v) : ∀ σ H Q, tG X.K E (gC d) σ H Q → tC v σ H Q := fun σ H Q ⟨al, be, m, en, s, l, h⟩ => h.now s v (h0 _ _ _)
theorem de_int {i j} : DE X E (.Constant (.int i) j pos) (gC (.int i)) := peImp pe_int (tc_imp fun _ _ _ => rd_int.mpr rfl)
theorem de_bl {b j} : DE X E (.Constant (.bool b) j pos) (gC (.bl b)) := peImp pe_bl (tc_imp fun _ _ _ => rd_bl.mpr rfl)
theorem de_str {x j} : DE X E (.Constant (.str x) j pos) (gC (.str x)) := peImp pe_str (tc_imp fun _ _ _ => rd_str.mpr rfl)
theorem de_globI {x : Str} {i : Int} (hg : Gl X x) (hm : ∃ t, X.mg x = some (.int i t)) (hd : (x == ("__debug__" : Str)) = false := by decide) : DE X E (.Name x pos) (gC (.int i)) := by
  obtain ⟨t, hm⟩ := hm
  exact peImp (pe_glob hg hm (v := .int i) ⟨t, rfl⟩ hd) (tc_imp fun _ _ _ => rd_int.mpr rfl)
theorem de_type {x : Str} {n : String} (hg : Gl X x) (hm : X.mg x = none) (hv : bootBuiltins x = some (.type n)) (hn : x ≠ "__name__" := by decide) (hd : (x == ("__debug__" : Str)) = false := by decide) : DE X E (.Name x pos) (gC (.ty n)) :=
  peImp (pe_bltn (v := .ty n) hg hm hv rfl hn hd) (tc_imp fun _ _ _ => rd_ty.mpr rfl)
end

def Op2 (K : PySem.W.Frag) (E : XK) (f : D → D → Sto → Out D) (r : R2) : Prop :=
  ∀ (al be : List Addr) (H : Hp) (m : Sto) (x y : D) (v u : V) (Q : VK), SS K al be H m → RD K al be H x v → RD K al be H y u →
    Post K al be H E (f x y m) (fun d al' H' _ => ∀ v, RD K al' be H' d v → Q v H') → r v u H Q
def gBin (f : D → D → Sto → Out D) (a b : GE) : GE := fun en m => (a en m).bind fun x m1 => (b en m1).bind fun y m2 => f x y m2
def gUn (f : D → Sto → Out D) (a : GE) : GE := fun en m => (a en m).bind f
def gAs (g : GE) : GB := fun en m => (g en m).bind fun d m1 => match d with
  | .bl b => .ok b m1
  | _ => .bad
section
variable {X : Cx} {E : XK} {a b c : Expr} {ga gb gc : GE} {pos : Pos} {f f' : D → D → Sto → Out D} {r r' : R2}
theorem top_imp (hf : Op2 X.K E f r) : ∀ σ H Q, tG X.K E (gBin f ga gb) σ H Q → tOp r (tG X.K E ga) (tG X.K E gb) σ H Q := fun σ H Q ⟨al, be, m, en, s, l, h⟩ =>
  ⟨al, be, m, en, s, l, Post.bind h fun x al1 H1 m1 c1 s1 h1 v rv => ⟨al1, be, m1, en, s1, l.chg c1, Post.bind h1 fun y al2 H2 m2 c2 s2 h2 u ru => hf al2 be H2 m2 x y v u Q s2 (c2.rd rv) ru h2⟩⟩
theorem de_op {op : Operator} (ho : OpR X (binaryOp op) r) (hf : Op2 X.K E f r) (ha : DE X E a ga) (hb : DE X E b gb) : DE X E (.BinOp a op b pos) (gBin f ga gb) := peImp (pe_op ho ha hb) (top_imp hf)
theorem de_cmp {op : CmpOp} (ho : OpR X (compareOp op) r) (hf : Op2 X.K E f r) (ha : DE X E a ga) (hb : DE X E b gb) (hm : behindInMarks op b = false) : DE X E (.Compare a [op] [b] pos) (gBin f ga gb) := peImp (pe_cmpR ho ha hb hm) (top_imp hf)
theorem test_imp {t : TE} {g : GE} (hi : ∀ σ H Q, tG X.K E g σ H Q → t σ H Q) : ∀ σ H Q, tB3 X.K E (gAs g) σ H Q → tTest t σ H Q := fun σ H Q ⟨al, be, m, en, s, l, h⟩ => by
  refine hi σ H _ ⟨al, be, m, en, s, l, Post.bind h fun d al1 H1 m1 c1 s1 h1 v rv => ?_⟩
  cases d <;> try exact h1.elim
  case bl k => exact ⟨k, rd_bl.mp rv, h1.now s1⟩
theorem db_cmp {op : CmpOp} (ho : OpR X (compareOp op) r) (hf : Op2 X.K E f r) (ha : DE X E a ga) (hb : DE X E b gb) (hm : behindInMarks op b = false) : DB X E (.Compare a [op] [b] pos) (gAs (gBin f ga gb)) := ptImp (pt_cmpR ho ha hb hm) (test_imp (top_imp hf))
def gChain (f f' : D → D → Sto → Out D) (a b c : GE) : GE := fun en m => (a en m).bind fun x m1 => (b en m1).bind fun y m2 => (f x y m2).bind fun z m3 => match z with
  | .bl true => (c en m3).bind fun w m4 => f' y w m4
  | .bl false => .ok (.bl false) m3
  | _ => .bad
theorem tchain_imp (hf : Op2 X.K E f r) (hf' : Op2 X.K E f' r') : ∀ σ H Q, tG X.K E (gChain f f' ga gb gc) σ H Q → tChain r r' (tG X.K E ga) (tG X.K E gb) (tG X.K E gc) σ H Q := fun σ H Q ⟨al, be, m, en, s, l, h⟩ =>
  ⟨al, be, m, en, s, l, Post.bind h fun x al1 H1 m1 c1 s1 h1 v rv => ⟨al1, be, m1, en, s1, l.chg c1, Post.bind h1 fun y al2 H2 m2 c2 s2 h2 u ru =>
    hf al2 be H2 m2 x y v u _ s2 (c2.rd rv) ru (Post.bind h2 fun z al3 H3 m3 c3 s3 h3 k rk => by
      cases z <;> try exact h3.elim
      case bl k' =>
        cases k' with
        | false => exact ⟨false, rd_bl.mp rk, h3.now s3 _ (rd_bl.mpr rfl)⟩
        | true => exact ⟨true, rd_bl.mp rk, al3, be, m3, en, s3, l.chg ((c1.trans c2).trans c3), Post.bind h3 fun w al4 H4 m4 c4 s4 h4 wv rw' => hf' al4 be H4 m4 y w u wv Q s4 ((c3.trans c4).rd ru) rw' h4⟩)⟩⟩
theorem de_chain {op op' : CmpOp} (ho : OpR X (compareOp op) r) (ho' : OpR X (compareOp op') r') (hf : Op2 X.K E f r) (hf' : Op2 X.K E f' r') (ha : DE X E a ga) (hb : DE X E b gb) (hc : DE X E c gc) (hm : lastMarks [op, op'] [b, c] = false := by with_unfolding_all rfl) : DE X E (.Compare a [op, op'] [b, c] pos) (gChain f f' ga gb gc) :=
  peImp (pe_chain ho ho' ha hb hc hm) (tchain_imp hf hf')
theorem db_chain {op op' : CmpOp} (ho : OpR X (compareOp op) r) (ho' : OpR X (compareOp op') r') (hf : Op2 X.K E f r) (hf' : Op2 X.K E f' r') (ha : DE X E a ga) (hb : DE X E b gb) (hc : DE X E c gc) (hm : lastMarks [op, op'] [b, c] = false := by with_unfolding_all rfl) : DB X E (.Compare a [op, op'] [b, c] pos) (gAs (gChain f f' ga gb gc)) :=
  ptImp (pt_chain ho ho' ha hb hc hm) (test_imp (tchain_imp hf hf'))
end

def oAdd : D → D → Sto → Out D := fun x y m => match x, y with
  | .int i, .int j => .ok (.int (i + j)) m
  | .str i, .str j => if i.length + j.length ≤ sizeLine then .ok (.str (i ++ j)) m else .bad
  | .tup xs, .tup ys => if xs.length + ys.length ≤ sizeLine then .ok (.tup (xs ++ ys)) m else .bad
  | .int i, .bl b => .ok (.int (i + b2i b)) m
  | _, _ => .bad
def oSub : D → D → Sto → Out D := fun x y m => match x, y with
  | .int i, .int j => .ok (.int (i - j)) m
  | _, _ => .bad
def oMul : D → D → Sto → Out D := fun x y m => match x, y with
  | .int i, .int j => if i.natAbs.log2 + j.natAbs.log2 < 1000000 then .ok (.int (i * j)) m else .bad
  | _, _ => .bad
def oDiv : D → D → Sto → Out D := fun x y m => match x, y with
  | .int i, .int j => if 0 < j ∧ j.natAbs.log2 < 9000 then .ok (.int (i / j)) m else .bad
  | _, _ => .bad
def oMod : D → D → Sto → Out D := fun x y m => match x, y with
  | .int i, .int j => if 0 < j then .ok (.int (i % j)) m else .bad
  | _, _ => .bad
section
variable {X : Cx} {E : XK}
abbrev rAdd3 (K : PySem.W.Frag) : R2 := fun x y H Q => rI0 (fun i j => .int (i + j)) x y H Q ∨ ((∃ i j, x = .str i ∧ y = .str j ∧ i.length + j.length ≤ sizeLine ∧ Q (.str (i ++ j)) H) ∨ (rCatA K x y H Q ∨ ∃ i k, x = .int i ∧ y = .bl k ∧ Q (.int (i + b2i k)) H))
theorem or_add : OpR X (binaryOp .Add) (rAdd3 X.K) := OpR.or op_add (OpR.or op_add_str (OpR.or op_catA op_add_ib))
theorem op2_add : Op2 X.K E oAdd (rAdd3 X.K) := fun al be H m x y v u Q s rx ry h => by
  unfold oAdd at h
  split at h
  · rw [rd_int] at rx ry
    exact .inl ⟨_, _, rx, ry, h.now s _ (rd_int.mpr rfl)⟩
  · rw [rd_str] at rx ry
    split at h
    · rename_i hl
      exact .inr (.inl ⟨_, _, rx, ry, hl, h.now s _ (rd_str.mpr rfl)⟩)
    · exact h.elim
  · rename_i xs ys
    split at h
    · rename_i hl
      obtain ⟨a, vs, ev, qv, rv⟩ := rd_tup rx
      obtain ⟨b, us, eu, qu, ru⟩ := rd_tup ry
      refine .inr (.inr (.inl ⟨a, b, vs, us, ev, eu, qv, qu, by rw [rv.length, ru.length]; exact hl, fun e => ?_, fun _ e => ?_, fun _ _ p hp => ?_⟩))
      · subst e
        have : xs = [] := List.eq_nil_of_length_eq_zero (by rw [← rv.length]; rfl)
        subst this
        exact h.now s _ (eu ▸ ry)
      · subst e
        have : ys = [] := List.eq_nil_of_length_eq_zero (by rw [← ru.length]; rfl)
        subst this
        rw [List.append_nil] at h
        exact h.now s _ (ev ▸ rx)
      · exact h al _ (Chg.ext (ext_upd hp)) (s.upd hp) _ (rd_newTup s hp (rv.append ru))
    · exact h.elim
  · rw [rd_int] at rx; rw [rd_bl] at ry
    exact .inr (.inr (.inr ⟨_, _, rx, ry, h.now s _ (rd_int.mpr rfl)⟩))
  · exact h.elim
theorem op2_sub : Op2 X.K E oSub (rI0 fun i j => .int (i - j)) := fun al be H m x y v u Q s rx ry h => by
  unfold oSub at h
  split at h
  · rw [rd_int] at rx ry
    exact ⟨_, _, rx, ry, h.now s _ (rd_int.mpr rfl)⟩
  · exact h.elim
theorem op2_mul : Op2 X.K E oMul (rI CMulW fun i j => .int (i * j)) := fun al be H m x y v u Q s rx ry h => by
  unfold oMul at h
  split at h
  · split at h
    · rename_i hl
      rw [rd_int] at rx ry
      exact ⟨_, _, rx, ry, hl, h.now s _ (rd_int.mpr rfl)⟩
    · exact h.elim
  · exact h.elim
theorem op2_div : Op2 X.K E oDiv (rI CDivW fun i j => .int (i / j)) := fun al be H m x y v u Q s rx ry h => by
  unfold oDiv at h
  split at h
  · split at h
    · rename_i hl
      rw [rd_int] at rx ry
      exact ⟨_, _, rx, ry, hl, h.now s _ (rd_int.mpr rfl)⟩
    · exact h.elim
  · exact h.elim
theorem op2_mod : Op2 X.K E oMod (rI (fun _ j => 0 < j) fun i j => .int (i % j)) := fun al be H m x y v u Q s rx ry h => by
  unfold oMod at h
  split at h
  · split at h
    · rename_i hl
      rw [rd_int] at rx ry
      exact ⟨_, _, rx, ry, hl, h.now s _ (rd_int.mpr rfl)⟩
    · exact h.elim
  · exact h.elim
variable {a b : Expr} {ga gb : GE} {pos : Pos}
theorem de_add (ha : DE X E a ga) (hb : DE X E b gb) : DE X E (.BinOp a .Add b pos) (gBin oAdd ga gb) := de_op or_add op2_add ha hb
theorem de_sub (ha : DE X E a ga) (hb : DE X E b gb) : DE X E (.BinOp a .Sub b pos) (gBin oSub ga gb) := de_op op_sub op2_sub ha hb
theorem de_mul (ha : DE X E a ga) (hb : DE X E b gb) : DE X E (.BinOp a .Mult b pos) (gBin oMul ga gb) := de_op op_mulW op2_mul ha hb
theorem de_div (ha : DE X E a ga) (hb : DE X E b gb) : DE X E (.BinOp a .FloorDiv b pos) (gBin oDiv ga gb) := de_op op_fdivW op2_div ha hb
theorem de_mod (ha : DE X E a ga) (hb : DE X E b gb) : DE X E (.BinOp a .Mod b pos) (gBin oMod ga gb) := de_op op_mod op2_mod ha hb
def oNeg : D → Sto → Out D := fun x m => match x with
  | .int i => .ok (.int (-i)) m
  | _ => .bad
def oI (p : Int → Int → Bool) : D → D → Sto → Out D := fun x y m => match x, y with
  | .int i, .int j => .ok (.bl (p i j)) m
  | _, _ => .bad
theorem op2_I {p : Int → Int → Bool} : Op2 X.K E (oI p) (rI0 fun i j => .bl (p i j)) := fun al be H m x y v u Q s rx ry h => by
  unfold oI at h
  split at h
  · rw [rd_int] at rx ry
    exact ⟨_, _, rx, ry, h.now s _ (rd_bl.mpr rfl)⟩
  · exact h.elim
abbrev oLe := oI fun i j => decide (i ≤ j)
abbrev oGt := oI fun i j => decide (j < i)
abbrev oGe := oI fun i j => decide (j ≤ i)
def intsOf : List D → Option (List Int)
  | [] => some []
  | .int i :: r => (intsOf r).map (i :: ·)
  | _ => none
theorem intsOf_ok : ∀ {ds : List D} {ns : List Int}, intsOf ds = some ns → ds = ns.map D.int
  | [], ns, h => by simp [intsOf] at h; subst h; rfl
  | d :: ds, ns, h => by
    cases d <;> simp [intsOf] at h
    obtain ⟨r, h1, rfl⟩ := h
    rw [intsOf_ok h1]; rfl
theorem intsOf_map : ∀ ns : List Int, intsOf (ns.map D.int) = some ns
  | [] => rfl
  | n :: ns => by simp [intsOf, intsOf_map ns]
def oLt : D → D → Sto → Out D := fun x y m => match x, y with
  | .int i, .int j => .ok (.bl (decide (i < j))) m
  | .tup xs, .tup ys => match intsOf xs, intsOf ys with
    | some ns, some ms => .ok (.bl (HT.lexLt ns ms)) m
    | _, _ => .bad
  | _, _ => .bad
abbrev rLt3 (K : PySem.W.Frag) : R2 := fun x y H Q => rI0 (fun i j => .bl (decide (i < j))) x y H Q ∨ rLtT K x y H Q
theorem op2_lt : Op2 X.K E oLt (rLt3 X.K) := fun al be H m x y v u Q s rx ry h => by
  unfold oLt at h
  split at h
  · rw [rd_int] at rx ry
    exact .inl ⟨_, _, rx, ry, h.now s _ (rd_bl.mpr rfl)⟩
  · split at h
    · rename_i ns ms e1 e2
      rw [intsOf_ok e1] at rx
      rw [intsOf_ok e2] at ry
      obtain ⟨a, vs, ev, qv, rv⟩ := rd_tup rx
      obtain ⟨b, us, eu, qu, ru⟩ := rd_tup ry
      rw [rv.ints_inv] at qv
      rw [ru.ints_inv] at qu
      exact .inr ⟨a, b, ns, ms, ev, eu, qv, qu, h.now s _ (rd_bl.mpr rfl)⟩
    · exact h.elim
  · exact h.elim
theorem or_lt (hu : X.A.units < cLine) : OpR X (compareOp .Lt) (rLt3 X.K) := OpR.or op_lt (op_ltT hu)
def isNonD : D → Bool
  | .non => true
  | _ => false
def oIsN : D → D → Sto → Out D := fun x y m => match y with
  | .non => .ok (.bl (isNonD x)) m
  | _ => .bad
def oNotN : D → D → Sto → Out D := fun x y m => match y with
  | .non => .ok (.bl (!isNonD x)) m
  | _ => .bad
end

def aNil : GA := fun _ m => .ok [] m
def aCons (g : GE) (r : GA) : GA := fun en m => (g en m).bind fun d m1 => (r en m1).bind fun ds m2 => .ok (d :: ds) m2
section
variable {X : Cx} {E : XK} {e : Expr} {es : List Expr} {g : GE} {gs : GA} {pos : Pos}
theorem da_nil : DA X E [] aNil := paImp pa_nil fun σ H Q ⟨al, be, m, en, s, l, h⟩ => h.now s _ RDs.nil
theorem da_cons (ha : DE X E e g) (hr : DA X E es gs) (hs : starEach (e :: es) X.env = (false, eval e X.env) :: starEach es X.env := by rfl) : DA X E (e :: es) (aCons g gs) :=
  paImp (pa_cons ha hr hs) fun σ H Q ⟨al, be, m, en, s, l, h⟩ => ⟨al, be, m, en, s, l, Post.bind h fun d al1 H1 m1 c1 s1 h1 v rv =>
    ⟨al1, be, m1, en, s1, l.chg c1, Post.bind h1 fun ds al2 H2 m2 c2 s2 h2 vs rvs => h2.now s2 _ (RDs.cons (c2.rd rv) rvs)⟩⟩
def gTup (gs : GA) : GE := fun en m => (gs en m).bind fun ds m1 => if ds.length ≤ sizeLine then .ok (.tup ds) m1 else .bad
def gLst (gs : GA) : GE := fun en m => (gs en m).bind fun ds m1 => if ds.length ≤ sizeLine then .ok (.lst ds) m1 else .bad
def gLstM (gs : GA) : GE := fun en m => (gs en m).bind fun ds m1 => if ds.length ≤ sizeLine then .ok (.ref m1.length) (m1 ++ [.lst ds]) else .bad
theorem de_tup {x1} (h : DA X E es gs) : DE X E (.Tuple es x1 pos) (gTup gs) := peImp (pe_tup h) fun σ H Q ⟨al, be, m, en, s, l, h⟩ =>
  ⟨al, be, m, en, s, l, Post.bind h fun ds al1 H1 m1 c1 s1 h1 vs rvs => by
    split at h1
    · rename_i hl
      exact ⟨by rw [rvs.length]; exact hl, fun p hp => h1 al1 _ (Chg.ext (ext_upd hp)) (s1.upd hp) _ (rd_newTup s1 hp rvs)⟩
    · exact h1.elim⟩
theorem de_lst (h : DA X E es gs) : DE X E (.List es pos) (gLst gs) := peImp (pe_lst h) fun σ H Q ⟨al, be, m, en, s, l, h⟩ =>
  ⟨al, be, m, en, s, l, Post.bind h fun ds al1 H1 m1 c1 s1 h1 vs rvs => by
    split at h1
    · rename_i hl
      exact ⟨by rw [rvs.length]; exact hl, fun p hp => h1 al1 _ (Chg.ext (ext_upd hp)) (s1.upd hp) _ (rd_newLst s1 hp rvs)⟩
    · exact h1.elim⟩
theorem new_lst {K : PySem.W.Frag} {al be : List Addr} {H : Hp} {m : Sto} {p : Addr} {ds : List D} {vs : List V} (s : SS K al be H m) (hp : H p = none) (r : RDs K al be H ds vs) :
    Chg al H (al ++ [p]) (upd H p (.lst vs)) ∧ SS K (al ++ [p]) be (upd H p (.lst vs)) (m ++ [.lst ds]) ∧ RD K (al ++ [p]) be (upd H p (.lst vs)) (.ref m.length) (.ref p) := by
  have c : Chg al H (al ++ [p]) (upd H p (.lst vs)) := Chg.push hp
  refine ⟨c, s.push hp ⟨vs, upd_same, c.rds r⟩, rd_ref.mpr ⟨p, ?_, rfl⟩⟩
  rw [← s.len, List.getElem?_append_right (Nat.le_refl _)]
  simp
theorem de_lstM (h : DA X E es gs) : DE X E (.List es pos) (gLstM gs) := peImp (pe_lst h) fun σ H Q ⟨al, be, m, en, s, l, h⟩ =>
  ⟨al, be, m, en, s, l, Post.bind h fun ds al1 H1 m1 c1 s1 h1 vs rvs => by
    split at h1
    · rename_i hl
      refine ⟨by rw [rvs.length]; exact hl, fun p hp => ?_⟩
      obtain ⟨c, s2, r⟩ := new_lst s1 hp rvs
      exact h1 _ _ c s2 _ r
    · exact h1.elim⟩
end

def truD (m : Sto) : D → Option Bool
  | .non => some false
  | .bl b => some b
  | .int i => some (i != 0)
  | .str y => if y.length ≤ sizeLine then some ((y.length : Int) != 0) else none
  | .tup ds => some (!ds.isEmpty)
  | .lst ds => some (!ds.isEmpty)
  | .ref k => match m[k]? with
    | some (.lst ds) => some (!ds.isEmpty)
    | some (.dK kvs) => some (!kvs.isEmpty)
    | _ => none
  | _ => none
section
variable {K : PySem.W.Frag} {al be : List Addr} {H : Hp} {m : Sto}
theorem isEmpty_rds {ds : List D} {vs : List V} (r : RDs K al be H ds vs) : (!ds.isEmpty) = !vs.isEmpty := by
  have := r.length
  cases ds <;> cases vs <;> simp_all
theorem truD_ok {d : D} {v : V} {b : Bool} (s : SS K al be H m) (r : RD K al be H d v) (h : truD m d = some b) : TruV K v H b := by
  cases d <;> simp only [truD] at h
  case non => cases h; rw [rd_non.mp r]; rfl
  case bl => cases h; rw [rd_bl.mp r]; rfl
  case int => cases h; rw [rd_int.mp r]; rfl
  case str =>
    split at h <;> cases h
    rename_i hl
    rw [rd_str.mp r]; exact ⟨hl, rfl⟩
  case tup =>
    cases h
    obtain ⟨a, vs, rfl, q, rv⟩ := rd_tup r
    exact .inr (.inl ⟨vs, q, isEmpty_rds rv⟩)
  case lst =>
    cases h
    obtain ⟨a, vs, rfl, q, rv⟩ := rd_lst r
    exact .inl ⟨vs, SqL.of q, isEmpty_rds rv⟩
  case ref k =>
    obtain ⟨a, ea, rfl⟩ := rd_ref.mp r
    split at h <;> cases h
    · rename_i e
      obtain ⟨b, eb, vs, hv, rv⟩ := s.store e
      rw [ea] at eb; cases eb
      exact .inl ⟨vs, SqL.of hv, isEmpty_rds rv⟩
    · rename_i e
      rename_i kvs
      obtain ⟨b, eb, vs, hv, hk, rv⟩ := s.store e
      rw [ea] at eb; cases eb
      refine .inr (.inr ⟨vs, hv, ?_⟩)
      cases kvs <;> cases vs <;> simp_all
  all_goals cases h
end
def gTru (g : GE) : GB := fun en m => (g en m).bind fun d m1 => match truD m1 d with
  | some b => .ok b m1
  | none => .bad
def bNot (g : GB) : GB := fun en m => (g en m).bind fun b m1 => .ok (!b) m1
def bAnd (g h : GB) : GB := fun en m => (g en m).bind fun b m1 => if b = true then h en m1 else .ok false m1
def bOr (g h : GB) : GB := fun en m => (g en m).bind fun b m1 => if b = true then .ok true m1 else h en m1
def gIf (t : GB) (a b : GE) : GE := fun en m => (t en m).bind fun k m1 => if k = true then a en m1 else b en m1
def gAnd (a b : GE) : GE := fun en m => (a en m).bind fun d m1 => match truD m1 d with
  | some true => b en m1
  | some false => .ok d m1
  | none => .bad
def gOr (a b : GE) : GE := fun en m => (a en m).bind fun d m1 => match truD m1 d with
  | some true => .ok d m1
  | some false => b en m1
  | none => .bad
def gNot (a : GE) : GE := fun en m => (a en m).bind fun d m1 => match truD m1 d with
  | some b => .ok (.bl (!b)) m1
  | none => .bad
section
variable {X : Cx} {E : XK} {a b c : Expr} {rest : List Expr} {ga gb : GE} {ta tb : GB} {pos : Pos}
theorem db_tru (ha : DE X E a ga) (he : ∀ whole, isTrue a X.env whole = (do let v ← whole; standAt a.pos; holding [v] (truthy v)) := by intro _; rfl) : DB X E a (gTru ga) :=
  ptImp (pt_truth ha he) fun σ H Q ⟨al, be, m, en, s, l, h⟩ => ⟨al, be, m, en, s, l, Post.bind h fun d al1 H1 m1 c1 s1 h1 v rv => by
    split at h1
    · rename_i e
      exact ⟨_, truD_ok s1 rv e, h1.now s1⟩
    · exact h1.elim⟩
theorem db_not (ha : DB X E a ta) : DB X E (.UnaryOp .Not a pos) (bNot ta) :=
  ptImp (pt_not ha) fun σ H Q ⟨al, be, m, en, s, l, h⟩ => ⟨al, be, m, en, s, l, Post.bind h fun d al1 H1 m1 c1 s1 h1 => h1.now s1⟩
theorem dw_and1 (ha : DB X E a ta) : DW X E (.BoolOp .And [a] pos) ta := pw_and1 ha
theorem dw_or1 (ha : DB X E a ta) : DW X E (.BoolOp .Or [a] pos) ta := pw_or1 ha
theorem dw_and (ha : DB X E a ta) (hb : DW X E (.BoolOp .And (b :: rest) pos) tb) : DW X E (.BoolOp .And (a :: b :: rest) pos) (bAnd ta tb) :=
  pwImp (pw_and ha hb) fun σ H Q ⟨al, be, m, en, s, l, h⟩ => ⟨al, be, m, en, s, l, Post.bind h fun k al1 H1 m1 c1 s1 h1 => by
    cases k with
    | true => exact ⟨al1, be, m1, en, s1, l.chg c1, h1⟩
    | false => exact h1.now s1⟩
theorem dw_or (ha : DB X E a ta) (hb : DW X E (.BoolOp .Or (b :: rest) pos) tb) : DW X E (.BoolOp .Or (a :: b :: rest) pos) (bOr ta tb) :=
  pwImp (pw_or ha hb) fun σ H Q ⟨al, be, m, en, s, l, h⟩ => ⟨al, be, m, en, s, l, Post.bind h fun k al1 H1 m1 c1 s1 h1 => by
    cases k with
    | true => exact h1.now s1
    | false => exact ⟨al1, be, m1, en, s1, l.chg c1, h1⟩⟩
theorem DW.db {e : Expr} {g : GB} (h : DW X E e g) : DB X E e g := PW.pt h
theorem de_ifExp (hc : DB X E c ta) (ha : DE X E a ga) (hb : DE X E b gb) : DE X E (.IfExp c a b pos) (gIf ta ga gb) :=
  peImp (pe_ifExp hc ha hb) fun σ H Q ⟨al, be, m, en, s, l, h⟩ => ⟨al, be, m, en, s, l, Post.bind h fun k al1 H1 m1 c1 s1 h1 => by
    cases k with
    | true => exact ⟨al1, be, m1, en, s1, l.chg c1, h1⟩
    | false => exact ⟨al1, be, m1, en, s1, l.chg c1, h1⟩⟩
end
end L3
namespace L3
open PySem PySem.Spec L2
open PyProof.Rows hiding St

section
variable {κ : Type} [DecidableEq κ]
def valA {α : Type} (kvs : List (κ × α)) (k : κ) : Option α := (kvs.find? fun kv => decide (kv.1 = k)).map (·.2)
def putA {α : Type} (kvs : List (κ × α)) (k : κ) (v : α) : List (κ × α) :=
  if (kvs.any fun kv => decide (kv.1 = k)) = true then kvs.map (fun kv => if kv.1 = k then (kv.1, v) else kv) else kvs ++ [(k, v)]
def dropA {α : Type} (kvs : List (κ × α)) (k : κ) : List (κ × α) := kvs.filter fun kv => decide (kv.1 ≠ k)
variable {K : PySem.W.Frag} {al be : List Addr} {H : Hp}
theorem RK.nil : RK K al be H ([] : List (κ × D)) [] := ⟨rfl, RDs.nil⟩
theorem RK.cons {k : κ} {d : D} {v : V} {kvs : List (κ × D)} {vs : List (κ × V)} (h : RD K al be H d v) (t : RK K al be H kvs vs) : RK K al be H ((k, d) :: kvs) ((k, v) :: vs) := ⟨by simp [t.1], RDs.cons h t.2⟩
theorem RK.inv {k : κ} {d : D} {kvs : List (κ × D)} {vs : List (κ × V)} (h : RK K al be H ((k, d) :: kvs) vs) : ∃ v r, vs = (k, v) :: r ∧ RD K al be H d v ∧ RK K al be H kvs r := by
  obtain ⟨h1, h2⟩ := h
  cases vs with
  | nil => simp at h1
  | cons p r =>
    obtain ⟨k', v⟩ := p
    simp at h1
    obtain ⟨rfl, h1⟩ := h1
    obtain ⟨v', r', e, q1, q2⟩ := RDs.cons_inv h2
    simp at e
    obtain ⟨rfl, rfl⟩ := e
    exact ⟨v, r, rfl, q1, h1, q2⟩
theorem RK.nil_inv {vs : List (κ × V)} (h : RK K al be H ([] : List (κ × D)) vs) : vs = [] := by
  have := h.1; simpa using this
theorem RK.length {kvs : List (κ × D)} {vs : List (κ × V)} (h : RK K al be H kvs vs) : vs.length = kvs.length := by
  have := congrArg List.length h.1; simpa using this
theorem RK.append : ∀ {kvs : List (κ × D)} {vs : List (κ × V)} {kvs' : List (κ × D)} {vs' : List (κ × V)}, RK K al be H kvs vs → RK K al be H kvs' vs' → RK K al be H (kvs ++ kvs') (vs ++ vs')
  | [], vs, _, _, h, g => by rw [h.nil_inv]; exact g
  | (k, d) :: kvs, vs, _, _, h, g => by
    obtain ⟨v, r, rfl, h1, h2⟩ := h.inv
    exact .cons h1 (h2.append g)
theorem valA_cons {α : Type} (p : κ × α) (r : List (κ × α)) (k : κ) : valA (p :: r) k = if p.1 = k then some p.2 else valA r k := by
  unfold valA
  rw [List.find?_cons]
  by_cases h : p.1 = k <;> simp [h]
theorem valV_cons (p : κ × V) (r : List (κ × V)) (k : κ) : valV (p :: r) k = if p.1 = k then some p.2 else valV r k := by
  by_cases h : p.1 = k
  · rw [valV_pos h, if_pos h]
  · rw [valV_neg h, if_neg h]
def RDo (K : PySem.W.Frag) (al be : List Addr) (H : Hp) : Option D → Option V → Prop
  | some d, some v => RD K al be H d v
  | none, none => True
  | _, _ => False
theorem RK.val (k : κ) : ∀ {kvs : List (κ × D)} {vs : List (κ × V)}, RK K al be H kvs vs → RDo K al be H (valA kvs k) (valV vs k)
  | [], vs, h => by rw [h.nil_inv]; exact trivial
  | (k', d) :: kvs, vs, h => by
    obtain ⟨v, r, rfl, h1, h2⟩ := h.inv
    rw [valA_cons, valV_cons]
    by_cases e : k' = k
    · rw [if_pos e, if_pos e]; exact h1
    · rw [if_neg e, if_neg e]; exact h2.val k
theorem RK.any (k : κ) {kvs : List (κ × D)} {vs : List (κ × V)} (h : RK K al be H kvs vs) : (vs.any fun kv => decide (kv.1 = k)) = (kvs.any fun kv => decide (kv.1 = k)) := by
  have e1 : (vs.any fun kv => decide (kv.1 = k)) = (vs.map (·.1)).any fun x => decide (x = k) := by rw [List.any_map]; rfl
  have e2 : (kvs.any fun kv => decide (kv.1 = k)) = (kvs.map (·.1)).any fun x => decide (x = k) := by rw [List.any_map]; rfl
  rw [e1, e2, h.1]
theorem RK.repl (k : κ) {d : D} {v : V} (r : RD K al be H d v) : ∀ {kvs : List (κ × D)} {vs : List (κ × V)}, RK K al be H kvs vs → RK K al be H (kvs.map fun kv => if kv.1 = k then (kv.1, d) else kv) (vs.map fun kv => if kv.1 = k then (kv.1, v) else kv)
  | [], vs, h => by rw [h.nil_inv]; exact RK.nil
  | (k', d') :: kvs, vs, h => by
    obtain ⟨v', r', rfl, h1, h2⟩ := h.inv
    rw [List.map_cons, List.map_cons]
    by_cases e : k' = k
    · simp only [e, if_true]; exact .cons r (h2.repl k r)
    · simp only [e, if_false]; exact .cons h1 (h2.repl k r)
theorem RK.put (k : κ) {d : D} {v : V} (r : RD K al be H d v) {kvs : List (κ × D)} {vs : List (κ × V)} (h : RK K al be H kvs vs) : RK K al be H (putA kvs k d) (putK vs k v) := by
  unfold putA putK
  rw [h.any k]
  split
  · exact h.repl k r
  · exact h.append (.cons r .nil)
theorem RK.drop (k : κ) : ∀ {kvs : List (κ × D)} {vs : List (κ × V)}, RK K al be H kvs vs → RK K al be H (dropA kvs k) (dropK vs k)
  | [], vs, h => by rw [h.nil_inv]; exact RK.nil
  | (k', d') :: kvs, vs, h => by
    obtain ⟨v', r', rfl, h1, h2⟩ := h.inv
    have h3 := h2.drop k
    unfold dropA dropK at *
    rw [List.filter_cons, List.filter_cons]
    by_cases e : k' = k
    · simpa [e] using h3
    · have := RK.cons (k := k') h1 h3
      simpa [e] using this
end
def keyD : D → Option Key
  | .int i => some (.inl i)
  | .str x => some (.inr x)
  | _ => none
def keysD : List D → Option (List Key)
  | [] => some []
  | d :: ds => match keyD d, keysD ds with
    | some k, some r => some (k :: r)
    | _, _ => none
def dKey : Key → D
  | .inl i => .int i
  | .inr x => .str x
theorem keyD_ok {d : D} {k : Key} (h : keyD d = some k) : d = dKey k := by
  unfold keyD at h
  split at h <;> cases h <;> rfl
theorem keysD_ok : ∀ {ds : List D} {ks : List Key}, keysD ds = some ks → ds = ks.map dKey
  | [], ks, h => by unfold keysD at h; cases h; rfl
  | d :: ds, ks, h => by
    unfold keysD at h
    split at h <;> cases h
    rename_i k r e1 e2
    rw [keyD_ok e1, keysD_ok e2]; rfl
section
variable {K : PySem.W.Frag} {al be : List Addr} {H : Hp} {m : Sto}
theorem rd_key {k : Key} {v : V} : RD K al be H (dKey k) v ↔ v = kV k := by
  cases k with
  | inl i => exact rd_int
  | inr x => exact rd_str
theorem rds_keys : ∀ {ks : List Key} {vs : List V}, RDs K al be H (ks.map dKey) vs → vs = ks.map kV
  | [], vs, h => h.nil_inv
  | k :: ks, vs, h => by
    obtain ⟨v, r, rfl, h1, h2⟩ := RDs.cons_inv h
    rw [rd_key.mp h1, rds_keys h2]; rfl
def dKOf (m : Sto) : D → Option (List (Key × D))
  | .dK ks ds => some (ks.zip ds)
  | .ref k => match m[k]? with
    | some (.dK kvs) => some kvs
    | _ => none
  | _ => none
def dTOf (m : Sto) : D → Option (List (List Key × D))
  | .dT ks ds => some (ks.zip ds)
  | .ref k => match m[k]? with
    | some (.dT kvs) => some kvs
    | _ => none
  | _ => none
theorem rk_zip {κ : Type} : ∀ {ks : List κ} {ds : List D} {vs : List (κ × V)}, vs.map (·.1) = ks → RDs K al be H ds (vs.map (·.2)) → RK K al be H (ks.zip ds) vs
  | [], ds, vs, e, r => by
    have : vs = [] := List.map_eq_nil_iff.mp e
    subst this
    exact ⟨rfl, RDs.nil⟩
  | k :: ks, ds, vs, e, r => by
    cases vs with
    | nil => cases e
    | cons p vs =>
      cases ds with
      | nil => simp only [List.map_cons] at r; exact absurd r (by intro q; unfold RDs at q; exact q)
      | cons d ds =>
        simp only [List.map_cons] at r e
        obtain ⟨v, r', e', h1, h2⟩ := r.cons_inv
        cases e'
        cases e
        have h := rk_zip (ks := vs.map (·.1)) (ds := ds) rfl h2
        exact ⟨congrArg (p.1 :: ·) h.1, RDs.cons h1 h.2⟩
theorem dKOf_ok {d : D} {v : V} {kvs : List (Key × D)} (s : SS K al be H m) (r : RD K al be H d v) (h : dKOf m d = some kvs) : ∃ a vs, v = .ref a ∧ Rd H a (.dK vs) ∧ RK K al be H kvs vs := by
  unfold dKOf at h
  split at h
  · cases h
    unfold RD at r
    obtain ⟨a, vs, e, f, q, rv⟩ := r
    exact ⟨a, vs, e, f.rd, rk_zip q rv⟩
  · split at h <;> cases h
    rename_i e
    obtain ⟨a, ea, vs, hv, rv⟩ := s.store e
    obtain ⟨b, eb, rfl⟩ := rd_ref.mp r
    rw [ea] at eb; cases eb
    exact ⟨a, vs, rfl, .inl hv, rv⟩
  · cases h
theorem dTOf_ok {d : D} {v : V} {kvs : List (List Key × D)} (s : SS K al be H m) (r : RD K al be H d v) (h : dTOf m d = some kvs) : ∃ a vs, v = .ref a ∧ Rd H a (.dT vs) ∧ RK K al be H kvs vs := by
  unfold dTOf at h
  split at h
  · cases h
    unfold RD at r
    obtain ⟨a, vs, e, f, q, rv⟩ := r
    exact ⟨a, vs, e, f.rd, rk_zip q rv⟩
  · split at h <;> cases h
    rename_i e
    obtain ⟨a, ea, vs, hv, rv⟩ := s.store e
    obtain ⟨b, eb, rfl⟩ := rd_ref.mp r
    rw [ea] at eb; cases eb
    exact ⟨a, vs, rfl, .inl hv, rv⟩
  · cases h
def dLook (m : Sto) (d k : D) : Option (Option D) := match dKOf m d with
  | some kvs => (keyD k).map fun k => valA kvs k
  | none => match dTOf m d, k with
    | some kvs, .tup ds => (keysD ds).map fun k => valA kvs k
    | _, _ => none
theorem dLook_ok {d k : D} {v u : V} {o : Option D} (s : SS K al be H m) (r : RD K al be H d v) (rk : RD K al be H k u) (h : dLook m d k = some o) : ∃ a ov, v = .ref a ∧ DGet H a u ov ∧ RDo K al be H o ov := by
  unfold dLook at h
  split at h
  · rename_i kvs e
    obtain ⟨a, vs, rfl, q, rv⟩ := dKOf_ok s r e
    cases ek : keyD k with
    | none => rw [ek] at h; cases h
    | some key =>
      rw [ek] at h; cases h
      rw [keyD_ok ek] at rk
      exact ⟨a, _, rfl, .inl ⟨vs, key, q, rd_key.mp rk, rfl⟩, rv.val key⟩
  · split at h
    · rename_i kvs ds e
      obtain ⟨a, vs, rfl, q, rv⟩ := dTOf_ok s r e
      cases ek : keysD ds with
      | none => rw [ek] at h; cases h
      | some key =>
        rw [ek] at h; cases h
        obtain ⟨b, us, rfl, hb, rb⟩ := rd_tupD rk
        rw [keysD_ok ek] at rb
        rw [rds_keys rb] at hb
        exact ⟨a, _, rfl, .inr ⟨vs, key, b, q, rfl, hb, rfl⟩, rv.val key⟩
    · cases h
end

def oPut (o i v : D) (m : Sto) : Option Sto := match o with
  | .ref k => match m[k]? with
    | some (.lst ds) => match i with
      | .int z => (ixN ds.length z).map fun j => m.set k (.lst (ds.set j v))
      | _ => none
    | some (.dK kvs) => match keyD i with
      | some key => if kvs.length < sizeLine then some (m.set k (.dK (putA kvs key v))) else none
      | none => none
    | some (.dT kvs) => match i with
      | .tup ds => match keysD ds with
        | some key => if kvs.length < sizeLine then some (m.set k (.dT (putA kvs key v))) else none
        | none => none
      | _ => none
    | _ => none
  | _ => none
abbrev rPut3 : TSet := fun o i v H Q => rSetL o i v H Q ∨ ∃ a H', o = .ref a ∧ DPut H a i v H' ∧ Q H'
theorem set_any {X : Cx} (hu : X.A.units + 1 < cLine) : PSet X rPut3 := fun pins s σ H o i v ov iv u Q I ro ri rv h => by
  rcases h with h | ⟨a, H', rfl, hp, hq⟩
  · exact set_list pins s σ H o i v ov iv u Q I ro ri rv h
  · cases ro
    exact d_setItem hu I hp ri rv fun s' I' => ⟨H', I', hq⟩
section
variable {K : PySem.W.Frag} {al be : List Addr} {H : Hp} {m m' : Sto}
theorem oPut_ok {o i v : D} {ov iv vv : V} {Q : Hp → Prop} (s : SS K al be H m) (ro : RD K al be H o ov) (ri : RD K al be H i iv) (rv : RD K al be H v vv) (h : oPut o i v m = some m') (hq : ∀ H', Chg al H al H' → SS K al be H' m' → Q H') : rPut3 ov iv vv H Q := by
  unfold oPut at h
  split at h
  · rename_i k
    obtain ⟨a, ea, rfl⟩ := rd_ref.mp ro
    split at h
    · rename_i ds e
      obtain ⟨b, eb, vs, hv, rvs⟩ := s.store e
      rw [ea] at eb; cases eb
      split at h
      · rename_i z
        cases ej : ixN ds.length z with
        | none => rw [ej] at h; cases h
        | some j =>
          rw [ej] at h; cases h
          rw [rd_int] at ri
          have c : Chg al H al (L2.upd H a (.lst (vs.set j vv))) := Chg.write ea
          exact .inl ⟨a, vs, z, j, rfl, ri, hv, by rw [rvs.length]; exact ej, hq _ c (s.write ea ⟨_, upd_same, (c.rds rvs).set j (c.rd rv)⟩)⟩
      · cases h
    · rename_i kvs e
      obtain ⟨b, eb, vs, hv, rvs⟩ := s.store e
      rw [ea] at eb; cases eb
      split at h
      · rename_i key ek
        split at h
        · rename_i hl
          cases h
          rw [keyD_ok ek, rd_key] at ri
          subst ri
          have c : Chg al H al (L2.upd H a (.dK (putK vs key vv))) := Chg.write ea
          have rk : RK K al be (L2.upd H a (.dK (putK vs key vv))) kvs vs := rvs.mono (fun _ _ q => c.fz q) (fun _ _ q => c.ix q)
          exact .inr ⟨a, _, rfl, DPut.k hv (by rw [rvs.length]; exact hl), hq _ c (s.write ea ⟨_, upd_same, rk.put key (c.rd rv)⟩)⟩
        · cases h
      · cases h
    · rename_i kvs e
      obtain ⟨b, eb, vs, hv, rvs⟩ := s.store e
      rw [ea] at eb; cases eb
      split at h
      · split at h
        · rename_i key ek
          split at h
          · rename_i hl
            cases h
            obtain ⟨t, us, rfl, ht, rt⟩ := rd_tupD ri
            rw [keysD_ok ek] at rt
            rw [rds_keys rt] at ht
            have c : Chg al H al (L2.upd H a (.dT (putK vs key vv))) := Chg.write ea
            have rk : RK K al be (L2.upd H a (.dT (putK vs key vv))) kvs vs := rvs.mono (fun _ _ q => c.fz q) (fun _ _ q => c.ix q)
            exact .inr ⟨a, _, rfl, DPut.t hv ht (by rw [rvs.length]; exact hl), hq _ c (s.write ea ⟨_, upd_same, rk.put key (c.rd rv)⟩)⟩
          · cases h
        · cases h
      · cases h
    · cases h
  · cases h
end

def putF3 (f : Str) (d : D) : List (Str × D) → List (Str × D)
  | [] => [(f, d)]
  | (g, x) :: r => if g = f then (g, d) :: r else (g, x) :: putF3 f d r
def insOf (m : Sto) : D → Option (Str × List (Str × D))
  | .ins c ns ds => some (c, ns.zip ds)
  | .ref k => match m[k]? with
    | some (.ins c fs) => some (c, fs)
    | _ => none
  | _ => none
section
variable {K : PySem.W.Frag} {al be : List Addr} {H : Hp} {m m' : Sto}
theorem insOf_ok {d : D} {v : V} {c : Str} {fs : List (Str × D)} (s : SS K al be H m) (r : RD K al be H d v) (h : insOf m d = some (c, fs)) : ∃ a dx vs, v = .ref a ∧ H a = some (.ins (He.ga K c) dx vs) ∧ RK K al be H fs vs := by
  unfold insOf at h
  split at h
  · cases h
    unfold RD at r
    obtain ⟨a, dx, vs, e, f, q, rv⟩ := r
    exact ⟨a, dx, vs, e, f.1, rk_zip q rv⟩
  · split at h <;> cases h
    rename_i e
    obtain ⟨a, ea, dx, vs, hv, rv⟩ := s.store e
    obtain ⟨b, eb, rfl⟩ := rd_ref.mp r
    rw [ea] at eb; cases eb
    exact ⟨a, dx, vs, rfl, hv, rv⟩
  · cases h
theorem lookup_rk {f : Str} : ∀ {fs : List (Str × D)} {vs : List (Str × V)}, RK K al be H fs vs → RDo K al be H (fs.lookup f) (vs.lookup f)
  | [], vs, h => by rw [h.nil_inv]; exact trivial
  | (g, d) :: fs, vs, h => by
    obtain ⟨v, r, rfl, h1, h2⟩ := h.inv
    rw [List.lookup_cons, List.lookup_cons]
    by_cases e : f == g
    · rw [e]; exact h1
    · simp only [Bool.not_eq_true] at e
      rw [e]; exact lookup_rk h2
theorem RK.putF {f : Str} {d : D} {v : V} (r : RD K al be H d v) : ∀ {fs : List (Str × D)} {vs : List (Str × V)}, RK K al be H fs vs → RK K al be H (putF3 f d fs) (L2.putF f v vs)
  | [], vs, h => by rw [h.nil_inv]; exact .cons r .nil
  | (g, x) :: fs, vs, h => by
    obtain ⟨u, r', rfl, h1, h2⟩ := h.inv
    unfold putF3 L2.putF
    by_cases e : g = f
    · rw [if_pos e, if_pos e]; exact .cons r h2
    · rw [if_neg e, if_neg e]; exact .cons h1 (RK.putF r h2)
end
structure Kls (K : PySem.W.Frag) (c : Str) : Prop where
  cl : Cls K (He.ga K c)
def gFld (c f : Str) (g : GE) : GE := fun en m => (g en m).bind fun d m1 => match insOf m1 d with
  | some (c', fs) => if c' = c then (match fs.lookup f with
    | some x => .ok x m1
    | none => .bad) else .bad
  | none => .bad
def oPutF (c f : Str) (o v : D) (m : Sto) : Option Sto := match o with
  | .ref k => match m[k]? with
    | some (.ins c' fs) => if c' = c ∧ fs.length < 1000 then some (m.set k (.ins c (putF3 f v fs))) else none
    | _ => none
  | _ => none
theorem oPutF_ok {K : PySem.W.Frag} {al be : List Addr} {H : Hp} {m m' : Sto} {c f : Str} {o v : D} {ov vv : V} (s : SS K al be H m) (ro : RD K al be H o ov) (rv : RD K al be H v vv) (h : oPutF c f o v m = some m') :
    ∃ a dx fs, ov = .ref a ∧ H a = some (.ins (He.ga K c) dx fs) ∧ fs.length < 1000 ∧ Chg al H al (L2.upd H a (.ins (He.ga K c) dx (L2.putF f vv fs))) ∧ SS K al be (L2.upd H a (.ins (He.ga K c) dx (L2.putF f vv fs))) m' := by
  unfold oPutF at h
  split at h
  · rename_i k
    split at h
    · rename_i c' fs e
      split at h
      · rename_i hc
        obtain ⟨hc, hl⟩ := hc
        subst hc
        cases h
        obtain ⟨a, ea, rfl⟩ := rd_ref.mp ro
        obtain ⟨b, eb, dx, vs, hv, rvs⟩ := s.store e
        rw [ea] at eb; cases eb
        have cg : Chg al H al (L2.upd H a (.ins (He.ga K c') dx (L2.putF f vv vs))) := Chg.write ea
        refine ⟨a, dx, vs, rfl, hv, by rw [rvs.length]; exact hl, cg, s.write ea ⟨dx, _, upd_same, ?_⟩⟩
        exact RK.putF (cg.rd rv) (rvs.mono (fun _ _ q => cg.fz q) (fun _ _ q => cg.ix q))
      · cases h
    · cases h
  · cases h
section
variable {X : Cx} {E : XK} {e : Expr} {g : GE} {pos : Pos}
theorem de_fld {f : Str} (c : Str) (he : DE X E e g) (k : Cls X.K (He.ga X.K c)) (n : NoAttr X.K (He.ga X.K c) f) (hb : attributeBase e f X.env (eval e X.env) = eval e X.env := by rfl) : DE X E (.Attribute e f pos) (gFld c f g) :=
  peImp (pe_fld he hb) fun σ H Q ⟨al, be, m, en, s, l, h⟩ => ⟨al, be, m, en, s, l, Post.bind h fun d al1 H1 m1 c1 s1 h1 v rv => by
    split at h1
    · rename_i c' fs ei
      split at h1
      · rename_i hc
        subst hc
        split at h1
        · rename_i x ex
          obtain ⟨a, dx, vs, rfl, hv, rvs⟩ := insOf_ok s1 rv ei
          have q := lookup_rk (f := f) rvs
          rw [ex] at q
          cases eu : vs.lookup f with
          | none => rw [eu] at q; exact q.elim
          | some u =>
            rw [eu] at q
            exact ⟨a, _, dx, vs, u, rfl, hv, k, n, eu, h1.now s1 u q⟩
        · exact h1.elim
      · exact h1.elim
    · exact h1.elim⟩
end

abbrev GT := D → Sl → Sto → Out Sl
abbrev GTs := List D → Sl → Sto → Out Sl
def Agree (ix : List Nat) (σ σ' : St) : Prop := σ'.length = σ.length ∧ ∀ i, i ∉ ix → σ'[i]? = σ[i]?
theorem Agree.refl {ix : List Nat} {σ : St} : Agree ix σ σ := ⟨rfl, fun _ _ => rfl⟩
theorem Agree.trans {ix jx : List Nat} {σ σ' σ'' : St} (a : Agree ix σ σ') (b : Agree jx σ' σ'') : Agree (ix ++ jx) σ σ'' := ⟨b.1.trans a.1, fun i h => (b.2 i fun q => h (List.mem_append_right _ q)).trans (a.2 i fun q => h (List.mem_append_left _ q))⟩
def tGt (K : PySem.W.Frag) (E : XK) (ix : List Nat) (gt : GT) : TG := fun v σ H Q => ∃ al be m en d, SS K al be H m ∧ SL K al be H σ en ∧ RD K al be H d v ∧
  Post K al be H E (gt d en m) fun en' al' H' _ => ∀ σ', SL K al' be H' σ' en' → Agree ix σ σ' → Q σ' H'
def tGts (K : PySem.W.Frag) (E : XK) (ix : List Nat) (gt : GTs) : TGs := fun vs σ H Q => ∃ al be m en ds, SS K al be H m ∧ SL K al be H σ en ∧ RDs K al be H ds vs ∧
  Post K al be H E (gt ds en m) fun en' al' H' _ => ∀ σ', SL K al' be H' σ' en' → Agree ix σ σ' → Q σ' H'
abbrev DG (X : Cx) (E : XK) (e : Expr) (ix : List Nat) (gt : GT) : Prop := PG X e (tGt X.K E ix gt)
abbrev DGs (X : Cx) (E : XK) (es : List Expr) (ix : List Nat) (gt : GTs) : Prop := PGs X es (tGts X.K E ix gt)
def nName (i : Nat) : GT := fun d en m => .ok (en.set i (some d)) m
def nNil : GTs := fun ds en m => match ds with
  | [] => .ok en m
  | _ => .bad
def nCons (t : GT) (u : GTs) : GTs := fun ds en m => match ds with
  | d :: r => (t d en m).bind fun en' m' => u r en' m'
  | [] => .bad
def nTup (n : Nat) (t : GTs) : GT := fun d en m => match tupOf d with
  | some ds => if ds.length = n then t ds en m else .bad
  | none => .bad
def nSub (go gi : GE) : GT := fun d en m => (go en m).bind fun o m1 => (gi en m1).bind fun i m2 => match oPut o i d m2 with
  | some m3 => .ok en m3
  | none => .bad
def nFld (c f : Str) (go : GE) : GT := fun d en m => (go en m).bind fun o m1 => match oPutF c f o d m1 with
  | some m3 => .ok en m3
  | none => .bad
theorem pgImp {X : Cx} {e : Expr} {t t' : TG} (h : PG X e t) (k : ∀ v σ H Q, t' v σ H Q → t v σ H Q) : PG X e t' := ⟨fun pins s σ H v u Q I r q => h.run pins s σ H v u Q I r (k _ _ _ _ q)⟩
theorem pgsImp {X : Cx} {e : List Expr} {t t' : TGs} (h : PGs X e t) (k : ∀ v σ H Q, t' v σ H Q → t v σ H Q) : PGs X e t' := ⟨fun pins s σ H v u Q I r q => h.run pins s σ H v u Q I r (k _ _ _ _ q)⟩
section
variable {X : Cx} {E : XK} {pos : Pos}
theorem dg_name (i : Nat) {x : Str} (hN : X.N.Nodup) (hi : X.N[i]? = some x := by rfl) (hx : Loc X.env.scope x := by first | exact .inl rfl | exact .inr rfl) (hf : X.fn x = true ∨ X.env.scope.names.lookup x = some .local := by first | exact .inl rfl | exact .inr rfl | assumption) : DG X E (.Name x pos) [i] (nName i) :=
  pgImp (pg_name hN hi hx hf) fun v σ H Q ⟨al, be, m, en, d, s, l, r, h⟩ => h.now s _ (l.set i r) ⟨by simp, fun j hj => List.getElem?_set_ne (fun e => hj (by simp [e]))⟩
theorem dgs_nil : DGs X E [] [] nNil := pgsImp pgs_nil fun vs σ H Q ⟨al, be, m, en, ds, s, l, r, h⟩ => by
  cases ds with
  | nil => exact ⟨r.nil_inv, h.now s _ l .refl⟩
  | cons _ _ => exact h.elim
theorem dgs_cons {e : Expr} {es : List Expr} {t : GT} {u : GTs} {ix jx : List Nat} (h1 : DG X E e ix t) (h2 : DGs X E es jx u) (hs : (assignEach (e :: es) X.env).map (·.2) = assign e X.env :: (assignEach es X.env).map (·.2) := by rfl) : DGs X E (e :: es) (ix ++ jx) (nCons t u) :=
  pgsImp (pgs_cons h1 h2 hs) fun vs σ H Q ⟨al, be, m, en, ds, s, l, r, h⟩ => by
    cases ds with
    | nil => exact h.elim
    | cons d ds =>
      obtain ⟨v, vr, rfl, r1, r2⟩ := r.cons_inv
      exact ⟨v, vr, rfl, al, be, m, en, d, s, l, r1, Post.bind h fun en' al1 H1 m1 c1 s1 h1 σ' l1 a1 => ⟨al1, be, m1, en', ds, s1, l1, c1.rds r2, h1.mono fun _ _ _ _ _ _ q σ2 l2 a2 => q σ2 l2 (a1.trans a2)⟩⟩
theorem dg_tup {es : List Expr} {k : Nat} {t : GTs} {ix : List Nat} (n : Nat) (hc : X.calm = true) (h : DGs X E es ix t) (hn : (assignEach es X.env).length = n := by rfl) (hst : (assignEach es X.env).findIdx? (·.1) = none := by rfl) : DG X E (.Tuple es k pos) ix (nTup n t) :=
  pgImp (pg_tup hc h hn hst) fun v σ H Q ⟨al, be, m, en, d, s, l, r, h⟩ => by
    unfold nTup at h
    split at h
    · rename_i ds e
      split at h
      · rename_i hl
        obtain ⟨a, vs, rfl, q, rv⟩ := tupOf_ok r e
        exact ⟨a, vs, rfl, q, by rw [rv.length]; exact hl, al, be, m, en, ds, s, l, rv, h⟩
      · exact h.elim
    · exact h.elim
theorem dg_sub {o i : Expr} {go gi : GE} (hu : X.A.units + 1 < cLine) (ho : DE X E o go) (hi : DE X E i gi) (ha : ∀ v, assign (.Subscript o i pos) X.env v = (do
      let ov ← holding [v] (eval o X.env)
      let iv ← holding [v, ov] (eval i X.env)
      standAt pos
      holding [v, ov, iv] (setItem ov iv v)
      release [v, ov, iv] []) := by intro _; rfl) : DG X E (.Subscript o i pos) [] (nSub go gi) :=
  pgImp (pg_sub ho hi (set_any hu) ha) fun v σ H Q ⟨al, be, m, en, d, s, l, r, h⟩ => ⟨al, be, m, en, s, l, Post.bind h fun o al1 H1 m1 c1 s1 h1 ov ro =>
    ⟨al1, be, m1, en, s1, l.chg c1, Post.bind h1 fun i al2 H2 m2 c2 s2 h2 iv ri => by
      split at h2
      · rename_i m3 e
        have l2 := (l.chg c1).chg c2
        exact oPut_ok s2 (c2.rd ro) ri ((c1.trans c2).rd r) e fun H' c3 s3 => h2 al2 H' c3 s3 _ (l2.chg c3) .refl
      · exact h2.elim⟩⟩
def gFldT (K : PySem.W.Frag) (to : TE) (f : Str) : TG := fun y σ H Q => to σ H fun x H2 => ∃ a C dx fs, x = .ref a ∧ H2 a = some (.ins C dx fs) ∧ Cls K C ∧ NoAttr K C f ∧ fs.length < 1000 ∧ Q σ (L2.upd H2 a (.ins C dx (L2.putF f y fs)))
theorem pg_fld {o : Expr} {f : Str} {to : TE} (ho : PE X o to) (ha : ∀ v, assign (.Attribute o f pos) X.env v = (do
    let ov ← holding [v] (eval o X.env)
    standAt pos.atName
    holding [v, ov] (setAttr ov f v)
    release [v, ov] []) := by intro _; rfl) : PG X (.Attribute o f pos) (gFldT X.K to f) := by
  refine ⟨fun pins s σ H v u Q I r h => ?_⟩
  rw [ha]
  refine wpAny_bind (wpAny_holding (thn (ho.run pins s σ H _ I h) fun ov s1 ⟨x, H1, I1, r1, a, C, dx, fs, ex, ea, c, n, l, q1⟩ => ?_))
  subst ex
  obtain rfl : ov = Value.ref a := r1
  refine wpAny_bind (wpAny_standAt (wpAny_bind (wpAny_holding (setattr_ok I1 ea c n l r fun s3 I3 => ?_))))
  exact wpAny_release ⟨σ, _, I3, q1⟩
theorem dg_fld {o : Expr} {go : GE} {f : Str} (c : Str) (ho : DE X E o go) (k : Cls X.K (He.ga X.K c)) (n : NoAttr X.K (He.ga X.K c) f) : DG X E (.Attribute o f pos) [] (nFld c f go) :=
  pgImp (pg_fld ho) fun v σ H Q ⟨al, be, m, en, d, s, l, r, h⟩ => ⟨al, be, m, en, s, l, Post.bind h fun o al1 H1 m1 c1 s1 h1 ov ro => by
    split at h1
    · rename_i m3 e
      obtain ⟨a, dx, fs, rfl, hv, hl, c2, s2⟩ := oPutF_ok s1 ro (c1.rd r) e
      exact ⟨a, _, dx, fs, rfl, hv, k, n, hl, h1 al1 _ c2 s2 _ ((l.chg c1).chg c2) .refl⟩
    · exact h1.elim⟩
end
end L3
namespace L3
open PySem PySem.Spec L2
open PyProof.Rows hiding St

def SO.ofOut {β : Type} (o : Out β) (f : β → Sto → SO) : SO := match o with
  | .ok b m => f b m
  | .ex x m => .ex x m
  | .bad => .bad
@[simp] theorem SO.ofOut_ok {β : Type} (b : β) (m : Sto) (f : β → Sto → SO) : SO.ofOut (.ok b m) f = f b m := rfl
@[simp] theorem SO.ofOut_ex {β : Type} (b : Exn) (m : Sto) (f : β → Sto → SO) : SO.ofOut (.ex b m) f = .ex b m := rfl
@[simp] theorem SO.ofOut_bad {β : Type} (f : β → Sto → SO) : SO.ofOut .bad f = .bad := rfl
theorem PostS.ofOut {β : Type} {K : PySem.W.Frag} {al be : List Addr} {H : Hp} {E : XK} {o : Out β} {f : β → Sto → SO} {D : Ends} {R : β → List Addr → Hp → Sto → Prop} (h : PostS K al be H E (SO.ofOut o f) D)
    (k : ∀ b al' H' m', Chg al H al' H' → SS K al' be H' m' → PostS K al' be H' E (f b m') D → R b al' H' m') : Post K al be H E o R := by
  cases o with
  | ok b m' => exact fun al' H' c s => k b al' H' m' c s (PostS.chg h c)
  | ex x m' => exact h
  | bad => exact h
def SO.then (o : SO) (f : Sl → Sto → SO) : SO := match o with
  | .nx en m => f en m
  | .rt d m => .rt d m
  | .bk en m => .bk en m
  | .ct en m => .ct en m
  | .ex x m => .ex x m
  | .bad => .bad
@[simp] theorem SO.then_nx (en : Sl) (m : Sto) (f : Sl → Sto → SO) : (SO.nx en m).then f = f en m := rfl
@[simp] theorem SO.then_rt (d : D) (m : Sto) (f : Sl → Sto → SO) : (SO.rt d m).then f = .rt d m := rfl
@[simp] theorem SO.then_bk (en : Sl) (m : Sto) (f : Sl → Sto → SO) : (SO.bk en m).then f = .bk en m := rfl
@[simp] theorem SO.then_ct (en : Sl) (m : Sto) (f : Sl → Sto → SO) : (SO.ct en m).then f = .ct en m := rfl
@[simp] theorem SO.then_ex (x : Exn) (m : Sto) (f : Sl → Sto → SO) : (SO.ex x m).then f = .ex x m := rfl
@[simp] theorem SO.then_bad (f : Sl → Sto → SO) : SO.bad.then f = .bad := rfl

def sNext : GS := fun en m => .nx en m
def sSeq (g h : GS) : GS := fun en m => (g en m).then h
def sExpr (g : GE) : GS := fun en m => SO.ofOut (g en m) fun _ m1 => .nx en m1
def sRet (g : GE) : GS := fun en m => SO.ofOut (g en m) fun d m1 => .rt d m1
def sRetN : GS := fun _ m => .rt .non m
def sIf (c : GB) (a b : GS) : GS := fun en m => SO.ofOut (c en m) fun k m1 => if k = true then a en m1 else b en m1
def sAsg (g : GE) (t : GT) : GS := fun en m => SO.ofOut (g en m) fun d m1 => SO.ofOut (t d en m1) fun en2 m2 => .nx en2 m2
def sBad : GS := fun _ _ => .bad
section
variable {X : Cx} {E : XK} {st : Stmt} {sts : List Stmt} {g h : GS} {e : Expr} {ge : GE} {pos : Pos}
theorem dss_nil : DSs X E [] sNext := pssImp pss_nil fun D σ H ⟨al, be, m, en, s, l, h⟩ => h al H σ .refl s l
theorem seq_post {K : PySem.W.Frag} {al be : List Addr} {H : Hp} {en : Sl} {m : Sto} {D : Ends} (h0 : PostS K al be H E (sSeq g h en m) D) : PostS K al be H E (g en m) { D with nx := tS K E h D } := by
  unfold sSeq at h0
  cases e : g en m with
  | nx en2 m2 =>
    rw [e] at h0
    exact fun al' H' σ' c s l => ⟨al', be, m2, en2, s, l, PostS.chg h0 c⟩
  | rt d m2 => rw [e] at h0; exact h0
  | bk d m2 => rw [e] at h0; exact h0
  | ct d m2 => rw [e] at h0; exact h0
  | ex d m2 => rw [e] at h0; exact h0
  | bad => rw [e] at h0; exact h0
theorem dss_cons (h1 : DS X E st g) (h2 : DSs X E sts h) : DSs X E (st :: sts) (sSeq g h) := pssImp (pss_cons h1 h2) fun D σ H ⟨al, be, m, en, s, l, h⟩ => ⟨al, be, m, en, s, l, seq_post h⟩
theorem dss_one (h1 : DS X E st g) : DSs X E [st] g := pss_one h1
theorem ds_expr (he : DE X E e ge) (hs : swapsWith e none pos.line X.env = pure false := by rfl) : DS X E (.Expr e pos) (sExpr ge) :=
  psImp (ps_expr he hs) fun D σ H ⟨al, be, m, en, s, l, h⟩ => ⟨al, be, m, en, s, l, PostS.ofOut h fun d al1 H1 m1 c1 s1 h1 v rv => h1 al1 H1 σ .refl s1 (l.chg c1)⟩
theorem ds_ret (he : DE X E e ge) : DS X E (.Return (some e) pos) (sRet ge) :=
  psImp (ps_ret he) fun D σ H ⟨al, be, m, en, s, l, h⟩ => ⟨al, be, m, en, s, l, PostS.ofOut h fun d al1 H1 m1 c1 s1 h1 v rv => h1 al1 H1 v .refl s1 rv⟩
theorem ds_if {c : Expr} {a b : List Stmt} {gc : GB} {ga gb : GS} (hc : DB X E c gc) (ha : DSs X E a ga) (hb : DSs X E b gb) : DS X E (.If c a b pos) (sIf gc ga gb) :=
  psImp (ps_if hc ha hb) fun D σ H ⟨al, be, m, en, s, l, h⟩ => ⟨al, be, m, en, s, l, PostS.ofOut h fun k al1 H1 m1 c1 s1 h1 => by
    cases k with
    | true => exact ⟨al1, be, m1, en, s1, l.chg c1, h1⟩
    | false => exact ⟨al1, be, m1, en, s1, l.chg c1, h1⟩⟩
theorem asg_imp {te : TE} {tg : TG} {gt : GT} {ix : List Nat} (hg : ∀ v σ H Q, tGt X.K E ix gt v σ H Q → tg v σ H Q) : ∀ D σ H, tS X.K E (sAsg ge gt) D σ H → tAsg (tG X.K E ge) tg D σ H := fun D σ H ⟨al, be, m, en, s, l, h⟩ =>
  ⟨al, be, m, en, s, l, PostS.ofOut h fun d al1 H1 m1 c1 s1 h1 v rv => hg v σ H1 _ ⟨al1, be, m1, en, d, s1, l.chg c1, rv, PostS.ofOut h1 fun en2 al2 H2 m2 c2 s2 h2 σ' l2 _ => h2 al2 H2 σ' .refl s2 l2⟩⟩
theorem ds_asg {tg : Expr} {gt : GT} {ix : List Nat} (he : DE X E e ge) (hg : DG X E tg ix gt) (hs : swapsWithSole [tg] e pos.line X.env = pure false := by rfl) (hw : swappedStores [tg] e X.env = pure none := by rfl)
    (h1 : (assignEach [tg] X.env).map (·.2) = [assign tg X.env] := by rfl) : DS X E (.Assign [tg] e pos) (sAsg ge gt) := psImp (ps_asg he hg hs hw h1) (asg_imp (te := tG X.K E ge) fun _ _ _ _ h => h)
theorem ds_set (i : Nat) {x : Str} {pos' : Pos} (hN : X.N.Nodup) (he : DE X E e ge) (hi : X.N[i]? = some x := by rfl) (hx : Loc X.env.scope x := by first | exact .inl rfl | exact .inr rfl)
    (hs : swapsWith e (some (.Name x pos')) pos.line X.env = pure false := by rfl) (hf : X.fn x = true ∨ X.env.scope.names.lookup x = some .local := by first | exact .inl rfl | exact .inr rfl | assumption) : DS X E (.Assign [.Name x pos'] e pos) (sAsg ge (nName i)) :=
  psImp (ps_set hN hi hx he hs hf) (asg_imp (te := tG X.K E ge) (ix := [i]) fun v σ H Q ⟨al, be, m, en, d, s, l, r, h⟩ => h.now s _ (l.set i r) ⟨by simp, fun j hj => List.getElem?_set_ne (fun e => hj (by simp [e]))⟩)
def sPar (i j : Nat) (gs : GA) : GS := fun en m => SO.ofOut (gs en m) fun ds m1 => match ds with
  | [a, b] => .nx ((en.set i (some a)).set j (some b)) m1
  | _ => .bad
theorem ds_par {i j : Nat} {x y : Str} {a b : Expr} {gs : GA} {px py pt : Pos} {kt k2 pt2} (hc : X.calm = true) (hN : X.N.Nodup) (ha : DA X E [a, b] gs) (hi : X.N[i]? = some x := by rfl) (hj : X.N[j]? = some y := by rfl) (hij : i ≠ j := by decide)
    (hx : X.env.scope.names.lookup x = some .local := by rfl) (hy : X.env.scope.names.lookup y = some .local := by rfl)
    (hw : swappedStores [.Tuple [.Name x px, .Name y py] kt pt] (.Tuple [a, b] k2 pt2) X.env = pure (some [x, y]) := by rfl) (hs : swapsWithSole [.Tuple [.Name x px, .Name y py] kt pt] (.Tuple [a, b] k2 pt2) pos.line X.env = pure false := by rfl) :
    DS X E (.Assign [.Tuple [.Name x px, .Name y py] kt pt] (.Tuple [a, b] k2 pt2) pos) (sPar i j gs) :=
  psImp (ps_par hc hN hi hj hij hx hy ha hw hs) fun D σ H ⟨al, be, m, en, s, l, h⟩ => ⟨al, be, m, en, s, l, PostS.ofOut h fun ds al1 H1 m1 c1 s1 h1 vs rvs => by
    split at h1
    · rename_i a b
      obtain ⟨v, r, rfl, r1, rvs⟩ := rvs.cons_inv
      obtain ⟨w, r, rfl, r2, rvs⟩ := rvs.cons_inv
      obtain rfl := rvs.nil_inv
      exact ⟨v, w, rfl, h1 al1 H1 _ .refl s1 (((l.chg c1).set i r1).set j r2)⟩
    · exact h1.elim⟩
def sPar3 (i j k : Nat) (gs : GA) : GS := fun en m => SO.ofOut (gs en m) fun ds m1 => match ds with
  | [a, b, c] => .nx (((en.set i (some a)).set j (some b)).set k (some c)) m1
  | _ => .bad
def sAug (i : Nat) (f : D → D → Sto → Out D) (g : GE) : GS := fun en m => match en[i]? with
  | some (some x) => SO.ofOut (g en m) fun y m1 => SO.ofOut (f x y m1) fun z m2 => .nx (en.set i (some z)) m2
  | _ => .bad
theorem ds_aug (i : Nat) {x : Str} {op : Operator} {r : R2} {f : D → D → Sto → Out D} {pos' : Pos} (hN : X.N.Nodup) (ho : OpR X (inplaceOp op) r) (hf : Op2 X.K E f r) (he : DE X E e ge) (hi : X.N[i]? = some x := by rfl) (hx : Loc X.env.scope x := by first | exact .inl rfl | exact .inr rfl)
    (hl : X.fn x = true ∨ X.env.scope.names.lookup x = some .local := by first | exact .inl rfl | exact .inr rfl | assumption) : DS X E (.AugAssign (.Name x pos') op e pos) (sAug i f ge) :=
  psImp (ps_aug hN hi hx he (ti := r) ho hl) fun D σ H ⟨al, be, m, en, s, l, h⟩ => by
    unfold sAug at h
    split at h
    · rename_i d ed
      obtain ⟨v, ev, rv⟩ := l.get i d ed
      exact ⟨v, ev, al, be, m, en, s, l, PostS.ofOut h fun y al1 H1 m1 c1 s1 h1 u ru => hf al1 be H1 m1 d y v u _ s1 (c1.rd rv) ru (PostS.ofOut h1 fun z al2 H2 m2 c2 s2 h2 w rw' => h2 al2 H2 _ .refl s2 (((l.chg c1).chg c2).set i rw'))⟩
    · exact h.elim
end

def whileN (c : GB) (b : GS) : Nat → Sl → Sto → SO
  | 0, _, _ => .bad
  | n + 1, en, m => SO.ofOut (c en m) fun k m1 => if k = true then (match b en m1 with
    | .nx en2 m2 => whileN c b n en2 m2
    | .ct en2 m2 => whileN c b n en2 m2
    | .bk en2 m2 => .nx en2 m2
    | .rt d m2 => .rt d m2
    | .ex x m2 => .ex x m2
    | .bad => .bad) else .nx en m1
open Classical in
noncomputable def sWhile (c : GB) (b : GS) : GS := fun en m => if h : ∃ n, whileN c b n en m ≠ .bad then whileN c b h.choose en m else .bad
theorem whileN_mono {c : GB} {b : GS} : ∀ {n k : Nat} {en : Sl} {m : Sto}, n ≤ k → whileN c b n en m ≠ .bad → whileN c b k en m = whileN c b n en m
  | 0, _, _, _, _, h => (h rfl).elim
  | n + 1, 0, _, _, hn, _ => absurd hn (by omega)
  | n + 1, k + 1, en, m, hn, h => by
    unfold whileN at h ⊢
    cases ec : c en m with
    | ok kk m1 =>
      rw [ec] at h
      simp only [SO.ofOut_ok] at h ⊢
      cases kk with
      | false => rfl
      | true =>
        simp only [if_true] at h ⊢
        cases eb : b en m1 with
        | nx en2 m2 => rw [eb] at h; exact whileN_mono (by omega) h
        | ct en2 m2 => rw [eb] at h; exact whileN_mono (by omega) h
        | bk en2 m2 => rfl
        | rt en2 m2 => rfl
        | ex en2 m2 => rfl
        | bad => rfl
    | ex x m1 => rfl
    | bad => rfl
theorem sWhile_eq {c : GB} {b : GS} {n : Nat} {en : Sl} {m : Sto} (h : whileN c b n en m ≠ .bad) : sWhile c b en m = whileN c b n en m := by
  have hx : ∃ n, whileN c b n en m ≠ .bad := ⟨n, h⟩
  unfold sWhile
  rw [dif_pos hx]
  have h2 := hx.choose_spec
  rcases Nat.le_total n hx.choose with q | q
  · exact whileN_mono q h
  · exact (whileN_mono q h2).symm
section
variable {X : Cx} {E : XK} {pos : Pos} {c : Expr} {body : List Stmt} {gc : GB} {gb : GS}
theorem ds_while (hp : PassesOwn (model X.prog X.w) X.A X.env X.xe) (hc : DB X E c gc) (hb : DSs X E body gb) : DS X E (.While c body [] pos) (sWhile gc gb) :=
  psImp (ps_while hp hc hb) fun D σ H ⟨al, be, m, en, s, l, h⟩ => by
    refine ⟨fun meas σ' H' => ∃ al' m' en', Chg al H al' H' ∧ SS X.K al' be H' m' ∧ SL X.K al' be H' σ' en' ∧ PostS X.K al' be H' E (whileN gc gb meas en' m') D, ?_, ?_⟩
    · unfold sWhile at h
      split at h
      · rename_i hx
        exact ⟨hx.choose, al, m, en, .refl, s, l, h⟩
      · exact h.elim
    · rintro meas σ' H' ⟨al', m', en', c', s', l', h'⟩
      cases meas with
      | zero => exact h'.elim
      | succ n =>
        unfold whileN at h'
        refine ⟨al', be, m', en', s', l', PostS.ofOut h' fun k al1 H1 m1 c1 s1 h1 => ?_⟩
        cases k with
        | false => exact h1 al1 H1 σ' .refl s1 (l'.chg c1)
        | true =>
          refine ⟨fun σ2 H2 => ∃ al2 m2 en2, Chg al H al2 H2 ∧ SS X.K al2 be H2 m2 ∧ SL X.K al2 be H2 σ2 en2 ∧ PostS X.K al2 be H2 E (whileN gc gb n en2 m2) D, fun σ2 H2 q => ⟨n, by omega, q⟩, al1, be, m1, en', s1, l'.chg c1, ?_⟩
          simp only [if_true] at h1
          cases eb : gb en' m1 with
          | nx en2 m2 => rw [eb] at h1; exact fun al2 H2 σ2 c2 s2 l2 => ⟨al2, m2, en2, (c'.trans c1).trans c2, s2, l2, PostS.chg h1 c2⟩
          | ct en2 m2 => rw [eb] at h1; exact fun al2 H2 σ2 c2 s2 l2 => ⟨al2, m2, en2, (c'.trans c1).trans c2, s2, l2, PostS.chg h1 c2⟩
          | bk en2 m2 => rw [eb] at h1; exact h1
          | rt en2 m2 => rw [eb] at h1; exact h1
          | ex en2 m2 => rw [eb] at h1; exact h1
          | bad => rw [eb] at h1; exact h1
end
end L3
namespace L3
open PySem PySem.Spec L2
open PyProof.Rows hiding St

structure Src where
  items : List D
  lives : List (Nat × List D) := []
noncomputable def Src.ok (s : Src) (m : Sto) : Bool := @decide (∀ p ∈ s.lives, m[p.1]? = some (.lst p.2)) (Classical.propDecidable _)
theorem Src.ok_live {s : Src} {m : Sto} {k : Nat} {ds : List D} (e : (k, ds) ∈ s.lives) (h : s.ok m = true) : m[k]? = some (.lst ds) := @of_decide_eq_true _ (Classical.propDecidable _) h (k, ds) e
theorem Src.ok_of {s : Src} {m : Sto} (h : ∀ p ∈ s.lives, m[p.1]? = some (.lst p.2)) : s.ok m = true := @decide_eq_true _ (Classical.propDecidable _) h
@[simp] theorem Src.ok_fixed (ds : List D) (m : Sto) : Src.ok ⟨ds, []⟩ m = true := Src.ok_of fun _ h => nomatch h
@[simp] theorem Src.ok_one {ds es : List D} {k : Nat} {m : Sto} (h : m[k]? = some (.lst es)) : Src.ok ⟨ds, [(k, es)]⟩ m = true := Src.ok_of fun p hp => by
  obtain rfl := List.mem_singleton.mp hp
  exact h
abbrev GI := Sl → Sto → Out Src
def Chg2 (al be : List Addr) (H : Hp) (al' be' : List Addr) (H' : Hp) : Prop := Chg al H al' H' ∧ ∀ b ∈ be', b ∈ be ∨ H b = none
section
variable {K : PySem.W.Frag} {al al' be be' : List Addr} {H H' : Hp}
theorem Chg2.fz (c : Chg2 al be H al' be' H') {a : Addr} {u : HO} (h : Fz al be H a u) : Fz al' be' H' a u := by
  obtain ⟨q, n1, n2⟩ := c.1.fz h
  refine ⟨q, n1, fun z => ?_⟩
  rcases c.2 a z with y | y
  · exact h.2.2 y
  · rcases h.rd with r | ⟨o, r⟩ <;> rw [y] at r <;> cases r
theorem Chg2.rd (c : Chg2 al be H al' be' H') {d : D} {v : V} (h : RD K al be H d v) : RD K al' be' H' d v := h.mono (fun _ _ q => c.fz q) fun _ _ q => c.1.ix q
theorem Chg2.rds (c : Chg2 al be H al' be' H') {d : List D} {v : List V} (h : RDs K al be H d v) : RDs K al' be' H' d v := h.mono (fun _ _ q => c.fz q) fun _ _ q => c.1.ix q
theorem Chg2.of (c : Chg al H al' H') : Chg2 al be H al' be H' := ⟨c, fun b h => .inl h⟩
theorem Chg2.sl (c : Chg2 al be H al' be' H') {σ : St} {en : Sl} (h : SL K al be H σ en) : SL K al' be' H' σ en := ⟨h.len, fun i d e => let ⟨v, e1, r⟩ := h.get i d e; ⟨v, e1, c.rd r⟩⟩
end
structure Chg3 (al be : List Addr) (H : Hp) (al' be' : List Addr) (H' : Hp) : Prop where
  pre : ∃ more, al' = al ++ more
  keep : ∀ a u, H a = some u → a ∉ al → a ∉ be → H' a = some u
  new : ∀ a ∈ al', a ∉ al → H a = none
  hid : ∀ b ∈ be', b ∈ be ∨ H b = none
section
variable {K : PySem.W.Frag} {al al' al'' be be' : List Addr} {H H' H'' : Hp}
theorem Chg2.to3 (c : Chg2 al be H al' be' H') : Chg3 al be H al' be' H' := ⟨c.1.pre, fun a u e n _ => c.1.keep a u e n, c.1.new, c.2⟩
theorem Chg3.of (c : Chg al H al' H') : Chg3 al be H al' be H' := (Chg2.of c).to3
theorem Chg3.ix (c : Chg3 al be H al' be' H') {k : Nat} {a : Addr} (h : al[k]? = some a) : al'[k]? = some a := by
  obtain ⟨x, rfl⟩ := c.pre
  rw [List.getElem?_append_left (List.getElem?_eq_some_iff.mp h).1]
  exact h
theorem Chg3.fz (c : Chg3 al be H al' be' H') {a : Addr} {u : HO} (h : Fz al be H a u) : Fz al' be' H' a u := by
  have rr := h.rd
  obtain ⟨r, n, nb⟩ := h
  have there : ¬ H a = none := fun q => by rcases rr with r | ⟨o, r⟩ <;> rw [q] at r <;> cases r
  refine ⟨?_, fun q => there (c.new a q n), fun z => (c.hid a z).elim nb there⟩
  have kr : ∀ u, Rd H a u → Rd H' a u := fun u r => by
    rcases r with r | ⟨o, r⟩
    · exact .inl (c.keep _ _ r n nb)
    · exact .inr ⟨o, c.keep _ _ r n nb⟩
  cases u <;> first | exact kr _ r | exact c.keep _ _ r n nb
theorem Chg3.rd (c : Chg3 al be H al' be' H') {d : D} {v : V} (h : RD K al be H d v) : RD K al' be' H' d v := h.mono (fun _ _ q => c.fz q) fun _ _ q => c.ix q
theorem Chg3.rds (c : Chg3 al be H al' be' H') {d : List D} {v : List V} (h : RDs K al be H d v) : RDs K al' be' H' d v := h.mono (fun _ _ q => c.fz q) fun _ _ q => c.ix q
theorem Chg3.trans (c : Chg3 al be H al' be H') (d : Chg al' H' al'' H'') (hnb : ∀ a ∈ al'', a ∉ al' → a ∉ be) : Chg3 al be H al'' be H'' := by
  obtain ⟨x, rfl⟩ := c.pre
  obtain ⟨y, rfl⟩ := d.pre
  have kp : ∀ a u, H a = some u → a ∉ al → a ∉ be → H' a = some u ∧ a ∉ al ++ x := fun a u e n nb => ⟨c.keep a u e n nb, fun q => by
    have := c.new a q n
    rw [e] at this; cases this⟩
  refine ⟨⟨x ++ y, by simp⟩, fun a u e n nb => ?_, fun a q n => ?_, fun b hb => .inl hb⟩
  · obtain ⟨e1, n1⟩ := kp a u e n nb
    exact d.keep a u e1 n1
  · by_cases h : a ∈ al ++ x
    · exact c.new a h n
    · have := d.new a q h
      cases e : H a with
      | none => rfl
      | some u =>
        exfalso
        by_cases hb : a ∈ be
        · exact hnb a q h hb
        · rw [(kp a u e n hb).1] at this; cases this
theorem Chg3.step (c : Chg3 al be H al' be H') (d : Chg al' H' al'' H'') {D : Addr} {o : HO} (hD : D ∈ be) (hnb : ∀ a ∈ al'', a ∉ al' → a ∉ be) : Chg3 al be H al'' be (upd H'' D o) := by
  obtain ⟨x, rfl⟩ := c.pre
  obtain ⟨y, rfl⟩ := d.pre
  have kp : ∀ a u, H a = some u → a ∉ al → a ∉ be → H' a = some u ∧ a ∉ al ++ x := fun a u e n nb => ⟨c.keep a u e n nb, fun q => by
    have := c.new a q n
    rw [e] at this; cases this⟩
  refine ⟨⟨x ++ y, by simp⟩, fun a u e n nb => ?_, fun a q n => ?_, fun b hb => .inl hb⟩
  · obtain ⟨e1, n1⟩ := kp a u e n nb
    have na : a ≠ D := fun z => nb (by rw [z]; exact hD)
    rw [upd_ne na]
    exact d.keep a u e1 n1
  · by_cases h : a ∈ al ++ x
    · exact c.new a h n
    · have := d.new a q h
      cases e : H a with
      | none => rfl
      | some u =>
        exfalso
        by_cases hb : a ∈ be
        · exact hnb a q h hb
        · rw [(kp a u e n hb).1] at this; cases this
end
def ItOk (K : PySem.W.Frag) (al be : List Addr) (H : Hp) (src : Src) (J : It) : Prop :=
  ∀ al' be' H' m', Chg3 al be H al' be' H' → SS K al' be' H' m' → src.ok m' = true → ∀ i,
    (∀ d, src.items[i]? = some d → J.go i H' ∧ ∀ x H2, J.yld i H' x H2 → (∀ a u, H' a = some u → H2 a = some u) ∧ RD K al' be' H2 d x) ∧ (src.items.length ≤ i → J.stop i H')
def tI (K : PySem.W.Frag) (E : XK) (gi : GI) : TI := fun σ H R => ∃ al be m en, SS K al be H m ∧ SL K al be H σ en ∧
  Post K al be H E (gi en m) fun src al' H' _ => ∀ J, ItOk K al' be H' src J → R J H'
abbrev DI (X : Cx) (E : XK) (tg e : Expr) (gi : GI) : Prop := PI X tg e (tI X.K E gi)
theorem piImp {X : Cx} {tg e : Expr} {t t' : TI} (h : PI X tg e t) (k : ∀ σ H R, t' σ H R → t σ H R) : PI X tg e t' := ⟨fun pins s σ H R I q => h.run pins s σ H R I (k _ _ _ q)⟩

noncomputable def forGo (src : Src) (t : GT) (b : GS) : List D → Sl → Sto → SO
  | [], en, m => .nx en m
  | d :: ds, en, m => SO.ofOut (t d en m) fun en1 m1 => match b en1 m1 with
    | .nx en2 m2 => if src.ok m2 = true then forGo src t b ds en2 m2 else .bad
    | .ct en2 m2 => if src.ok m2 = true then forGo src t b ds en2 m2 else .bad
    | .bk en2 m2 => .nx en2 m2
    | .rt d m2 => .rt d m2
    | .ex x m2 => .ex x m2
    | .bad => .bad
noncomputable def sFor (gi : GI) (t : GT) (b : GS) : GS := fun en m => SO.ofOut (gi en m) fun src m1 => if src.ok m1 = true then forGo src t b src.items en m1 else .bad
section
variable {X : Cx} {E : XK} {pos : Pos} {tg iter : Expr} {body : List Stmt} {gi : GI} {t : GT} {gb : GS} {ix : List Nat}
theorem ds_for (hp : PassesOwn (model X.prog X.w) X.A X.env X.xe) (hc : X.calm = true) (hi : DI X E tg iter gi) (hg : DG X E tg ix t) (hb : DSs X E body gb) (hs : ∀ x, foldedSetIterable iter X.env x = pure x := by intro _; rfl) : DS X E (.For tg iter body [] pos) (sFor gi t gb) :=
  psImp (ps_for hp hc hi hg hb hs) fun D σ H ⟨al, be, m, en, s, l, h⟩ => by
    refine ⟨al, be, m, en, s, l, PostS.ofOut h fun src al1 H1 m1 c1 s1 h1 J hJ => ?_⟩
    split at h1
    · rename_i hok
      refine ⟨fun i meas σ' H' => meas = src.items.length - i ∧ ∃ al' m' en', Chg al1 H1 al' H' ∧ SS X.K al' be H' m' ∧ SL X.K al' be H' σ' en' ∧ src.ok m' = true ∧ PostS X.K al' be H' E (forGo src t gb (src.items.drop i) en' m') D, ⟨_, rfl, al1, m1, en, .refl, s1, l.chg c1, hok, by simpa using h1⟩, ?_⟩
      rintro i meas σ' H' ⟨rfl, al', m', en', c', s', l', ok', h'⟩
      have hj := hJ al' be H' m' (.of c') s' ok' i
      by_cases hi : i < src.items.length
      · right
        obtain ⟨go, yl⟩ := hj.1 _ (List.getElem?_eq_getElem hi)
        refine ⟨go, fun σ2 H2 => ∃ al2 m2 en2, Chg al1 H1 al2 H2 ∧ SS X.K al2 be H2 m2 ∧ SL X.K al2 be H2 σ2 en2 ∧ src.ok m2 = true ∧ PostS X.K al2 be H2 E (forGo src t gb (src.items.drop (i + 1)) en2 m2) D, fun σ2 H2 q => ⟨src.items.length - (i + 1), by omega, rfl, q⟩, fun x H2 y => ?_⟩
        obtain ⟨same, rd⟩ := yl x H2 y
        have cy : Chg al' H' al' H2 := Chg.ext same
        have sy : SS X.K al' be H2 m' := s'.ext same
        rw [List.drop_eq_getElem_cons hi] at h'
        unfold forGo at h'
        refine ⟨al', be, m', en', _, sy, l'.chg cy, rd, PostS.ofOut (PostS.chg h' cy) fun en1 al3 H3 m3 c3 s3 h3 σ3 l3 _ => ⟨al3, be, m3, en1, s3, l3, ?_⟩⟩
        have call : Chg al1 H1 al3 H3 := (c'.trans cy).trans c3
        cases eb : gb en1 m3 with
        | nx en2 m2 =>
          rw [eb] at h3
          simp only at h3
          split at h3
          · rename_i ok2
            exact fun al4 H4 σ4 c4 s4 l4 => ⟨al4, m2, en2, call.trans c4, s4, l4, ok2, PostS.chg h3 c4⟩
          · exact h3.elim
        | ct en2 m2 =>
          rw [eb] at h3
          simp only at h3
          split at h3
          · rename_i ok2
            exact fun al4 H4 σ4 c4 s4 l4 => ⟨al4, m2, en2, call.trans c4, s4, l4, ok2, PostS.chg h3 c4⟩
          · exact h3.elim
        | bk en2 m2 => rw [eb] at h3; exact h3
        | rt en2 m2 => rw [eb] at h3; exact h3
        | ex en2 m2 => rw [eb] at h3; exact h3
        | bad => rw [eb] at h3; exact h3
      · left
        refine ⟨hj.2 (by omega), ?_⟩
        rw [List.drop_eq_nil_of_le (by omega)] at h'
        exact h' al' H' σ' .refl s' l'
    · exact h1.elim
end

def wipeE (en : Sl) : List Nat → Sl
  | [] => en
  | v :: vs => (wipeE en vs).set v none
def Out.nox {β : Type} (o : Out β) : Out β := match o with
  | .ex _ _ => .bad
  | o => o
@[simp] theorem Out.nox_ok {β : Type} (b : β) (m : Sto) : (Out.ok b m).nox = .ok b m := rfl
@[simp] theorem Out.nox_ex {β : Type} (b : Exn) (m : Sto) : (Out.ex b m : Out β).nox = .bad := rfl
@[simp] theorem Out.nox_bad {β : Type} : (Out.bad : Out β).nox = .bad := rfl
theorem SL.wipe {K : PySem.W.Frag} {al be : List Addr} {H : Hp} {σ : St} {en : Sl} (h : SL K al be H σ en) : ∀ vs, SL K al be H (L2.wipe σ vs) (wipeE en vs)
  | [] => h
  | v :: vs => (SL.wipe h vs).clear v
theorem wipe_get {σ : St} {i : Nat} : ∀ {vs : List Nat}, i ∈ vs → i < σ.length → (L2.wipe σ vs)[i]? = some none
  | [], h, _ => by cases h
  | v :: vs, h, hl => by
    unfold L2.wipe
    by_cases e : i = v
    · subst e
      rw [List.getElem?_set_self (by rw [wipe_length]; exact hl)]
    · rw [List.getElem?_set_ne (Ne.symm e)]
      exact wipe_get ((List.mem_cons.mp h).resolve_left e) hl
theorem wipe_agree {σ σ' : St} {ix vs : List Nat} (a : Agree ix (L2.wipe σ vs) σ') (h : ∀ i ∈ ix, i ∈ vs) : L2.wipe σ' vs = L2.wipe σ vs := by
  refine List.ext_getElem? fun i => ?_
  have hl : σ'.length = σ.length := by rw [a.1, wipe_length]
  by_cases hv : i ∈ vs
  · by_cases hi : i < σ.length
    · rw [wipe_get hv hi, wipe_get hv (by rw [hl]; exact hi)]
    · rw [List.getElem?_eq_none (by rw [wipe_length]; omega), List.getElem?_eq_none (by rw [wipe_length]; omega)]
  · rw [wipe_out hv, a.2 i (fun q => hv (h i q)), ]
theorem wipe_wipe_agree {σ σ' : St} {ix vs : List Nat} (a : Agree ix (L2.wipe σ vs) σ') (h : ∀ i ∈ ix, i ∈ vs) : L2.wipe σ' vs = L2.wipe σ vs := wipe_agree a h
theorem Out.bind_bind {α β γ : Type} (o : Out α) (f : α → Sto → Out β) (g : β → Sto → Out γ) : (o.bind f).bind g = o.bind fun a m => (f a m).bind g := by cases o <;> rfl
section
variable {K : PySem.W.Frag} {al al' be : List Addr} {H H' : Hp} {m : Sto} {D : Addr} {o : HO}
theorem Chg2.hide (h : H D = none) : Chg2 al be H al (D :: be) (upd H D o) := ⟨Chg.ext (ext_upd h), fun b hb => (List.mem_cons.mp hb).elim (fun z => .inr (z ▸ h)) .inl⟩
theorem SS.hide (s : SS K al be H m) (h : H D = none) (nt : NoTup o := by intro _ z; cases z) : SS K al (D :: be) (L2.upd H D o) m := by
  have c : Chg2 al be H al (D :: be) (L2.upd H D o) := Chg2.hide h
  refine ⟨s.len, s.nd, fun k a q e1 e2 => (s.obj k a q e1 e2).mono (fun _ _ z => c.fz z) (fun _ _ z => c.1.ix z) fun u z => ext_upd h a u z, fun a ha => ?_, fun a ha z => ?_⟩
  · rcases List.mem_cons.mp ha with rfl | ha
    · exact ⟨_, upd_same, nt⟩
    · obtain ⟨u, e, nt⟩ := s.tr a ha
      exact ⟨u, ext_upd h a u e, nt⟩
  · rcases List.mem_cons.mp z with rfl | z
    · exact (s.notNew h).1 ha
    · exact s.dis a ha z
theorem Fz.hidden {a : Addr} {u : HO} (hm : D ∈ be) (f : Fz al be H a u) : Fz al be (L2.upd H D o) a u := by
  have na : a ≠ D := fun z => f.2.2 (z ▸ hm)
  obtain ⟨f, n⟩ := f
  refine ⟨?_, n⟩
  have kr : ∀ u, Rd H a u → Rd (L2.upd H D o) a u := fun u r => by
    rcases r with r | ⟨q, r⟩
    · exact .inl (by rw [upd_ne na]; exact r)
    · exact .inr ⟨q, by rw [upd_ne na]; exact r⟩
  cases u <;> first | exact kr _ f | (show L2.upd H D o a = _; rw [upd_ne na]; exact f)
theorem RD.hidden {d : L3.D} {v : V} (hm : D ∈ be) (r : RD K al be H d v) : RD K al be (L2.upd H D o) d v := r.mono (fun _ _ q => q.hidden hm) fun _ _ q => q
theorem RDs.hidden {d : List L3.D} {v : List V} (hm : D ∈ be) (r : RDs K al be H d v) : RDs K al be (L2.upd H D o) d v := r.mono (fun _ _ q => q.hidden hm) fun _ _ q => q
theorem SS.hidden (s : SS K al be H m) (hm : D ∈ be) (nt : NoTup o := by intro _ z; cases z) : SS K al be (L2.upd H D o) m :=
  ⟨s.len, s.nd, fun k a q e1 e2 => (s.obj k a q e1 e2).mono (fun _ _ z => z.hidden hm) (fun _ _ z => z) fun u z => by rw [upd_ne (show a ≠ D from fun y => s.dis a (List.mem_of_getElem? e1) (y ▸ hm))]; exact z, fun a ha => by
    by_cases e : a = D
    · subst e; exact ⟨_, upd_same, nt⟩
    · obtain ⟨u, z, nt⟩ := s.tr a ha
      exact ⟨u, by rw [upd_ne e]; exact z, nt⟩, s.dis⟩
theorem Chg.hid (c : Chg al H al' H') (h : H D = none) : Chg al H al' (upd H' D o) := ⟨c.pre, fun a u e n => by rw [upd_ne (ne_of_none e h)]; exact c.keep a u e n, c.new⟩
theorem SS.unhide (s : SS K al (D :: be) H m) : SS K al be H m :=
  ⟨s.len, s.nd, fun k a q e1 e2 => (s.obj k a q e1 e2).mono (fun _ _ z => ⟨z.1, z.2.1, fun y => z.2.2 (List.mem_cons_of_mem _ y)⟩) (fun _ _ z => z) fun u z => z, fun a ha => s.tr a (List.mem_cons_of_mem _ ha), fun a ha y => s.dis a ha (List.mem_cons_of_mem _ y)⟩
theorem RDs.unhide {d : List L3.D} {v : List V} (r : RDs K al (D :: be) H d v) : RDs K al be H d v := r.mono (fun _ _ z => ⟨z.1, z.2.1, fun y => z.2.2 (List.mem_cons_of_mem _ y)⟩) fun _ _ q => q
end
noncomputable def lcGo (src : Src) (t : GT) (c : GB) (g : GE) (en0 : Sl) : List D → List D → Sto → Out (List D)
  | [], acc, m => .ok acc m
  | d :: ds, acc, m => (t d en0 m).nox.bind fun en1 m1 => (c en1 m1).nox.bind fun k m2 => if k = true then
      (g en1 m2).nox.bind fun y m3 => if acc.length < sizeLine ∧ src.ok m3 = true then lcGo src t c g en0 ds (acc ++ [y]) m3 else .bad
    else if src.ok m2 = true then lcGo src t c g en0 ds acc m2 else .bad
noncomputable def gLc (gi : GI) (t : GT) (c : GB) (g : GE) (vs : List Nat) : GE := fun en m => (gi en m).bind fun src m1 => if src.ok m1 = true then (lcGo src t c g (wipeE en vs) src.items [] m1).bind fun ds m2 => .ok (.lst ds) m2 else .bad
theorem Post.inner {β γ : Type} {K : PySem.W.Frag} {al be al' be' : List Addr} {H H' : Hp} {E : XK} {o : Out β} {f : β → Sto → Out γ} {R : γ → List Addr → Hp → Sto → Prop} {R' : β → List Addr → Hp → Sto → Prop} (h : Post K al be H E (o.nox.bind f) R)
    (k : ∀ b al2 H2 m2, Chg al' H' al2 H2 → SS K al2 be' H2 m2 → Post K al be H E (f b m2) R → R' b al2 H2 m2) : Post K al' be' H' E0 o R' := by
  cases o with
  | ok b m2 => exact fun al2 H2 c s => k b al2 H2 m2 c s h
  | ex x m2 => exact h.elim
  | bad => exact h.elim
def cYes : GB := fun _ m => .ok true m
theorem lc_imp {X : Cx} {E : XK} {gi : GI} {t : GT} {c : GB} {g : GE} {vs ix : List Nat} (hix : ∀ i ∈ ix, i ∈ vs) : ∀ σ H Q, tG X.K E (gLc gi t c g vs) σ H Q → tLc (tI X.K E gi) (tGt X.K E0 ix t) (tB3 X.K E0 c) (tG X.K E0 g) vs σ H Q := fun σ H Q ⟨al, be, m, en, s, l, h⟩ => by
  refine ⟨al, be, m, en, s, l, Post.bind h fun src al1 H1 m1 c1 s1 h1 J hJ D hD => ?_⟩
  split at h1
  · rename_i hok
    have c2 : Chg2 al1 be H1 al1 (D :: be) (upd H1 D (.lst [])) := Chg2.hide hD
    refine ⟨fun i meas H' => meas = src.items.length - i ∧ ∃ al' m' acc vs', Chg al1 H1 al' H' ∧ SS X.K al' (D :: be) H' m' ∧ SL X.K al' (D :: be) H' (L2.wipe σ vs) (wipeE en vs) ∧ H' D = some (.lst vs') ∧ RDs X.K al' (D :: be) H' acc vs' ∧ src.ok m' = true ∧
      Post X.K al1 be H1 E ((lcGo src t c g (wipeE en vs) (src.items.drop i) acc m').bind fun ds m2 => .ok (.lst ds) m2) fun d al' H' _ => ∀ v, RD X.K al' be H' d v → Q v H', ⟨_, rfl, al1, m1, [], [], c2.1, s1.hide hD, c2.sl ((l.chg c1).wipe vs), upd_same, RDs.nil, hok, by simpa using h1⟩, ?_⟩
    rintro i meas H' ⟨rfl, al', m', acc, vs', c', s', l', hv, rv, ok', h'⟩
    have hj := hJ al' (D :: be) H' m' (Chg2.to3 ⟨c', fun b hb => (List.mem_cons.mp hb).elim (fun z => .inr (z ▸ hD)) .inl⟩) s' ok' i
    have nD : D ∉ al' := fun z => s'.dis D z (List.mem_cons_self)
    by_cases hi : i < src.items.length
    · right
      obtain ⟨go, yl⟩ := hj.1 _ (List.getElem?_eq_getElem hi)
      rw [List.drop_eq_getElem_cons hi] at h'
      unfold lcGo at h'
      refine ⟨go, fun H2 => ∃ al2 m2 acc vs', Chg al1 H1 al2 H2 ∧ SS X.K al2 (D :: be) H2 m2 ∧ SL X.K al2 (D :: be) H2 (L2.wipe σ vs) (wipeE en vs) ∧ H2 D = some (.lst vs') ∧ RDs X.K al2 (D :: be) H2 acc vs' ∧ src.ok m2 = true ∧
        Post X.K al1 be H1 E ((lcGo src t c g (wipeE en vs) (src.items.drop (i + 1)) acc m2).bind fun ds m2 => .ok (.lst ds) m2) fun d al' H' _ => ∀ v, RD X.K al' be H' d v → Q v H', fun H2 q => ⟨src.items.length - (i + 1), by omega, rfl, q⟩, fun x H2 y => ?_⟩
      obtain ⟨same, rd⟩ := yl x H2 y
      have cy : Chg al' H' al' H2 := Chg.ext same
      have sy : SS X.K al' (D :: be) H2 m' := s'.ext same
      rw [Out.bind_bind] at h'
      refine ⟨al', D :: be, m', wipeE en vs, _, sy, l'.chg cy, rd, Post.inner h' fun en1 al3 H3 m3 c3 s3 h3 σ3 l3 ag => ⟨wipe_wipe_agree ag hix, ?_⟩⟩
      rw [Out.bind_bind] at h3
      refine ⟨al3, D :: be, m3, en1, s3, l3, Post.inner h3 fun k al4 H4 m4 c4 s4 h4 => ?_⟩
      have call : Chg al1 H1 al4 H4 := ((c'.trans cy).trans c3).trans c4
      have cin : Chg al' H' al4 H4 := (cy.trans c3).trans c4
      cases k with
      | false =>
        simp only [Bool.false_eq_true, if_false] at h4 ⊢
        split at h4
        · rename_i ok4
          exact ⟨al4, m4, acc, vs', call, s4, l'.chg cin, cin.keep D _ hv nD, cin.rds rv, ok4, h4⟩
        · exact h4.elim
      | true =>
        simp only [if_true] at h4 ⊢
        rw [Out.bind_bind] at h4
        refine ⟨al4, D :: be, m4, en1, s4, l3.chg c4, Post.inner h4 fun y al5 H5 m5 c5 s5 h5 w rw' => ?_⟩
        split at h5
        · rename_i hz
          have cin2 := cin.trans c5
          have hD5 := cin2.keep D _ hv nD
          refine ⟨vs', hD5, by rw [rv.length]; exact hz.1, al5, m5, acc ++ [y], vs' ++ [w], ?_, s5.hidden List.mem_cons_self, ?_, upd_same, ?_, hz.2, h5⟩
          · exact (call.trans c5).hid hD
          · exact ⟨l'.len, fun i d e => let ⟨v, e1, r⟩ := (l'.chg cin2).get i d e; ⟨v, e1, r.hidden List.mem_cons_self⟩⟩
          · exact RDs.hidden List.mem_cons_self ((cin2.rds rv).append (.cons rw' .nil))
        · exact h5.elim
    · left
      refine ⟨hj.2 (by omega), ?_⟩
      rw [List.drop_eq_nil_of_le (by omega)] at h'
      refine h' al' H' c' s'.unhide _ ?_
      unfold RD
      refine ⟨D, vs', rfl, ⟨hv, nD, (s1.notNew hD).2⟩, rv.unhide⟩
  · exact h1.elim
end L3
namespace L3
open PySem PySem.Spec L2
open PyProof.Rows hiding St

theorem PI.or {X : Cx} {tg e : Expr} {t t' : TI} (h : PI X tg e t) (h' : PI X tg e t') : PI X tg e (fun σ H R => t σ H R ∨ t' σ H R) := ⟨fun pins s σ H R I q => q.elim (h.run pins s σ H R I) (h'.run pins s σ H R I)⟩
section
variable {K : PySem.W.Frag} {al be : List Addr} {H : Hp} {m : Sto}
theorem it_list {a : Addr} {src : Src} (h : ∀ al' be' H' m', Chg3 al be H al' be' H' → SS K al' be' H' m' → src.ok m' = true → ∃ vs, SqL K H' a vs ∧ RDs K al' be' H' src.items vs) : ItOk K al be H src (Itl K a) := by
  intro al' be' H' m' c s ok i
  obtain ⟨vs, q, r⟩ := h al' be' H' m' c s ok
  refine ⟨fun d e => ?_, fun hl => ⟨vs, q, by rw [r.length]; exact hl⟩⟩
  obtain ⟨v, ev, rv⟩ := r.get e
  refine ⟨⟨vs, v, q, ev⟩, fun x H2 y => ?_⟩
  obtain ⟨rfl, y⟩ := y
  have := y vs q
  rw [ev] at this; cases this
  exact ⟨fun _ _ z => z, rv⟩
theorem it_tup {a : Addr} {src : Src} (h : ∀ al' be' H' m', Chg3 al be H al' be' H' → SS K al' be' H' m' → src.ok m' = true → ∃ vs, SqT K H' a vs ∧ RDs K al' be' H' src.items vs) : ItOk K al be H src (Itt K a) := by
  intro al' be' H' m' c s ok i
  obtain ⟨vs, q, r⟩ := h al' be' H' m' c s ok
  refine ⟨fun d e => ?_, fun hl => ⟨vs, q, by rw [r.length]; exact hl⟩⟩
  obtain ⟨v, ev, rv⟩ := r.get e
  refine ⟨⟨vs, v, q, ev⟩, fun x H2 y => ?_⟩
  obtain ⟨rfl, y⟩ := y
  have := y vs q
  rw [ev] at this; cases this
  exact ⟨fun _ _ z => z, rv⟩
def srcOf (m : Sto) : D → Option Src
  | .tup ds => some ⟨ds, []⟩
  | .lst ds => some ⟨ds, []⟩
  | .scr ns => some ⟨ns.map D.int, []⟩
  | .ref k => match m[k]? with
    | some (.lst ds) => some ⟨ds, [(k, ds)]⟩
    | _ => none
  | _ => none
theorem ex_lst {ds : List D} {a : Addr} (r : RD K al be H (.lst ds) (.ref a)) : ∃ vs, SqL K H a vs ∧ RDs K al be H ds vs := by
  obtain ⟨b, vs, e, q, rv⟩ := rd_lst r
  cases e
  exact ⟨vs, SqL.of q, rv⟩
theorem ex_scr {ns : List Int} {a : Addr} (r : RD K al be H (.scr ns) (.ref a)) : ∃ vs, SqL K H a vs ∧ RDs K al be H (ns.map D.int) vs := by
  obtain ⟨b, e, q⟩ := rd_scr r
  cases e
  exact ⟨_, q, RDs.ints⟩
theorem ex_tup {ds : List D} {a : Addr} (r : RD K al be H (.tup ds) (.ref a)) : ∃ vs, SqT K H a vs ∧ RDs K al be H ds vs := by
  obtain ⟨b, vs, e, q, rv⟩ := rd_tup r
  cases e
  exact ⟨vs, q, rv⟩
theorem srcOf_ok {d : D} {v : V} {src : Src} (s : SS K al be H m) (r : RD K al be H d v) (h : srcOf m d = some src) : ∃ a, v = .ref a ∧ ((∃ xs, SqL K H a xs) ∧ ItOk K al be H src (Itl K a) ∨ (∃ xs, SqT K H a xs) ∧ ItOk K al be H src (Itt K a)) := by
  unfold srcOf at h
  split at h
  · cases h
    obtain ⟨a, vs, rfl, q, rv⟩ := rd_tup r
    exact ⟨a, rfl, .inr ⟨⟨vs, q⟩, it_tup fun al' be' H' m' c s' ok => ex_tup (c.rd r)⟩⟩
  · cases h
    obtain ⟨a, vs, rfl, q, rv⟩ := rd_lst r
    exact ⟨a, rfl, .inl ⟨⟨vs, SqL.of q⟩, it_list fun al' be' H' m' c s' ok => ex_lst (c.rd r)⟩⟩
  · cases h
    obtain ⟨a, rfl, q⟩ := rd_scr r
    exact ⟨a, rfl, .inl ⟨⟨_, q⟩, it_list fun al' be' H' m' c s' ok => ex_scr (c.rd r)⟩⟩
  · rename_i k
    split at h
    · rename_i ds e
      cases h
      obtain ⟨a, ea, rfl⟩ := rd_ref.mp r
      obtain ⟨b, eb, vs, hv, rv⟩ := s.store e
      rw [ea] at eb; cases eb
      refine ⟨a, rfl, .inl ⟨⟨vs, SqL.of hv⟩, it_list fun al' be' H' m' c s' ok => ?_⟩⟩
      obtain ⟨b, eb, vs, hv, rv⟩ := s'.store (Src.ok_live (s := ⟨ds, [(k, ds)]⟩) (List.mem_singleton.mpr rfl) ok)
      rw [c.ix ea] at eb; cases eb
      exact ⟨vs, SqL.of hv, rv⟩
    · cases h
  · cases h
end
def ItV (X : Cx) (tg : Expr) (w : V → Hp → (It → Hp → Prop) → Prop) : Prop :=
  ∀ (pins : List (Addr × Obj)) (s : Shared) (σ : St) (H : Hp) (x : V) (v : Value) (R : It → Hp → Prop), Inv X pins σ H s → RelV x v → w x H R → wpAny (model X.prog X.w) X.A (pyIter v) (PIE X pins σ tg R) X.xe s
theorem ItV.or {X : Cx} {tg : Expr} {w w' : V → Hp → (It → Hp → Prop) → Prop} (h : ItV X tg w) (h' : ItV X tg w') : ItV X tg (fun x H R => w x H R ∨ w' x H R) := fun pins s σ H x v R I r q => q.elim (h pins s σ H x v R I r) (h' pins s σ H x v R I r)
theorem pi_of {X : Cx} {tg l : Expr} {tl : TE} {w : V → Hp → (It → Hp → Prop) → Prop} (hl : PE X l tl) (hw : ItV X tg w) : PI X tg l (fun σ H R => tl σ H fun x H1 => w x H1 R) :=
  ⟨fun pins s σ H R I h => thn (hl.run pins s σ H _ I h) fun v s1 ⟨x, H1, I1, r1, q1⟩ => hw pins s1 σ H1 x v R I1 r1 q1⟩
theorem itv_list {X : Cx} {tg : Expr} : ItV X tg (fun x H1 R => ∃ a, x = .ref a ∧ (∃ xs, SqL X.K H1 a xs) ∧ R (Itl X.K a) H1) := fun pins s1 σ H1 x v R I1 r1 q1 => by
  obtain ⟨a, e, ⟨xs, hq⟩, q⟩ := q1
  subst e
  cases r1
  obtain ⟨its, rv, p, hz⟩ := I1.list hq
  refine wpAny_pyIter_list p.isList ?_
  refine ⟨s1.heap.objs.size, [s1.heap.objs.size], _, _, H1, rfl, I1.kept (t' := s1.toks) fun b o e => Heap.get?_push_of_some _ e, turn_list a _, ⟨_, Heap.get?_push_size _ rfl, rfl, rfl⟩, fun b hb => ?_, q⟩
  have e : b = s1.heap.objs.size := by simpa using hb
  subst e
  exact I1.fpOk (Nat.le_refl _) (I1.hok.fresh (Nat.le_refl _))
theorem itv_tup {X : Cx} {tg : Expr} : ItV X tg (fun x H1 R => ∃ a, x = .ref a ∧ (∃ xs, SqT X.K H1 a xs) ∧ R (Itt X.K a) H1) := fun pins s1 σ H1 x v R I1 r1 q1 => by
  obtain ⟨a, e, ⟨xs, hq⟩, q⟩ := q1
  subst e
  cases r1
  obtain ⟨its, rv, p, hz⟩ := I1.tuple hq
  refine wpAny_pyIter_tuple (show s1.heap.IsTuple a its.toArray from p) ?_
  refine ⟨s1.heap.objs.size, [s1.heap.objs.size], _, _, H1, rfl, I1.kept (t' := s1.toks) fun b o e => Heap.get?_push_of_some _ e, turn_tuple a _, ⟨_, Heap.get?_push_size _ rfl, rfl, rfl⟩, fun b hb => ?_, q⟩
  have e : b = s1.heap.objs.size := by simpa using hb
  subst e
  exact I1.fpOk (Nat.le_refl _) (I1.hok.fresh (Nat.le_refl _))
def iSeq (g : GE) : GI := fun en m => (g en m).bind fun d m1 => match srcOf m1 d with
  | some s => .ok s m1
  | none => .bad
def iRange1 (g : GE) : GI := fun en m => (g en m).bind fun d m1 => match d with
  | .int j => if -(2 ^ 62) ≤ j ∧ j < 2 ^ 62 then .ok ⟨(List.range j.toNat).map fun i => D.int (i : Nat), []⟩ m1 else .bad
  | _ => .bad
section
variable {X : Cx} {E : XK} {tg e : Expr} {g : GE} {gs : GA}
theorem di_seq (he : DE X E e g) : DI X E tg e (iSeq g) :=
  piImp (pi_of he (ItV.or itv_list itv_tup)) fun σ H R ⟨al, be, m, en, s, l, h⟩ => ⟨al, be, m, en, s, l, Post.bind h fun d al1 H1 m1 c1 s1 h1 v rv => by
    split at h1
    · rename_i src e1
      obtain ⟨a, rfl, q⟩ := srcOf_ok s1 rv e1
      rcases q with ⟨q1, q2⟩ | ⟨q1, q2⟩
      · exact .inl ⟨a, rfl, q1, h1.now s1 _ q2⟩
      · exact .inr ⟨a, rfl, q1, h1.now s1 _ q2⟩
    · exact h1.elim⟩
theorem it_range {K : PySem.W.Frag} {al be : List Addr} {H : Hp} {lo : Int} {n : Nat} : ItOk K al be H ⟨(List.range n).map fun i => D.int (lo + (i : Nat)), []⟩ (Itr lo n) := by
  intro al' be' H' m' c s ok i
  refine ⟨fun d e => ?_, fun hl => by show n ≤ i; simpa using hl⟩
  have hi : i < n := by
    have := (List.getElem?_eq_some_iff.mp e).1
    simpa using this
  refine ⟨hi, fun x H2 y => ?_⟩
  obtain ⟨rfl, rfl⟩ := y
  refine ⟨fun _ _ z => z, ?_⟩
  simp [List.getElem?_map, List.getElem?_range hi] at e
  subst e
  exact rd_int.mpr rfl
theorem di_range1 {a : Expr} {ga : GE} {p pos : Pos} (hg : Gl X "range") (hm : X.mg "range" = none) (ha : DE X E a ga) (hs : starEach [a] X.env = (false, eval a X.env) :: starEach [] X.env := by rfl) : DI X E tg (.Call (.Name "range" p) [a] [] pos) (iRange1 ga) :=
  piImp (pi_range1 hg hm (da_cons ha da_nil hs) hs) fun σ H R ⟨al, be, m, en, s, l, h⟩ => ⟨al, be, m, en, s, l, by
    unfold aCons aNil
    simp only [Out.bind_ok]
    have h' : Post X.K al be H E ((ga en m).bind fun d m1 => Out.ok [d] m1) fun ds al' H' m' => ∀ vs, RDs X.K al' be H' ds vs → ∃ j : Int, vs = [.int j] ∧ -(2 ^ 62) ≤ j ∧ j < 2 ^ 62 ∧ R (Itr 0 j.toNat) H' := by
      unfold iRange1 at h
      cases e : ga en m with
      | ok d m1 =>
        rw [e] at h
        simp only [Out.bind_ok] at h ⊢
        intro al1 H1 c1 s1 vs rvs
        obtain ⟨v, r, rfl, rv, rr⟩ := rvs.cons_inv
        obtain rfl := rr.nil_inv
        split at h
        · split at h
          · rename_i j hb
            exact ⟨j, by rw [rd_int.mp rv], hb.1, hb.2, h al1 H1 c1 s1 _ (by simpa using it_range (lo := 0))⟩
          · exact h.elim
        · exact h.elim
      | ex x m1 => rw [e] at h; exact h
      | bad => rw [e] at h; exact h
    exact h'⟩
variable {elt iter : Expr} {ifs : List Expr} {scope : Scope} {own : List (Str × Nat)} {pos : Pos} {gi : GI} {t : GT} {c : GB} {ix : List Nat}
theorem pts_b (h : PT X e (tB3 X.K E c)) : PTs X [e] (tB3 X.K E c) := pts_one h
theorem pts_y : PTs X [] (tB3 X.K E cYes) := ⟨fun pins s σ H Q I h => by
  obtain ⟨al, be, m, en, ss, l, h⟩ := h
  exact (pts_nil (X := X)).run pins s σ H Q I (h.now ss)⟩
theorem de_lc (own : List (Str × Nat)) (ix : List Nat) (hc : X.calm = true) (hN : X.N.Nodup) (hi : DI X E tg iter gi) (ok : BlkOk X.N X.env.scope scope own)
    (hg : ∀ (s : Shared) (H : Hp) (C : Addr) (cl : List (Str × Addr)) (fp : List Addr), DG (X.blk s H scope (compEnvC scope cl C X.env) fp) E0 tg ix t)
    (ht : ∀ (s : Shared) (H : Hp) (C : Addr) (cl : List (Str × Addr)) (fp : List Addr), PTs (X.blk s H scope (compEnvC scope cl C X.env) fp) ifs (tB3 X.K E0 c))
    (he : ∀ (s : Shared) (H : Hp) (C : Addr) (cl : List (Str × Addr)) (fp : List Addr), DE (X.blk s H scope (compEnvC scope cl C X.env) fp) E0 elt g)
    (hs : ∀ x, foldedSetIterable iter X.env x = pure x := by intro _; rfl) (hix : ∀ i ∈ ix, i ∈ own.map (·.2) := by decide) : DE X E (.ListComp elt [⟨tg, iter, ifs, 0⟩] scope pos) (gLc gi t c g (own.map (·.2))) :=
  peImp (pe_lc hc hN hi ok hg ht he hs) (lc_imp hix)
theorem ds_setLc (i : Nat) (own : List (Str × Nat)) (ix : List Nat) {y : Str} {py spos : Pos} (hc : X.calm = true) (hN : X.N.Nodup) (hsw : swapsWith (.ListComp elt [⟨tg, iter, ifs, 0⟩] scope pos) (some (.Name y py)) spos.line X.env = pure true) (hi : DI X E tg iter gi) (ok : BlkOk X.N X.env.scope scope own)
    (hg : ∀ (s : Shared) (H : Hp) (C : Addr) (cl : List (Str × Addr)) (fp : List Addr), DG (X.blk s H scope (compEnvC scope cl C X.env) fp) E0 tg ix t)
    (ht : ∀ (s : Shared) (H : Hp) (C : Addr) (cl : List (Str × Addr)) (fp : List Addr), PTs (X.blk s H scope (compEnvC scope cl C X.env) fp) ifs (tB3 X.K E0 c))
    (he : ∀ (s : Shared) (H : Hp) (C : Addr) (cl : List (Str × Addr)) (fp : List Addr), DE (X.blk s H scope (compEnvC scope cl C X.env) fp) E0 elt g)
    (hy : X.N[i]? = some y := by rfl) (hyl : X.env.scope.names.lookup y = some .local := by rfl)
    (hs : ∀ x, foldedSetIterable iter X.env x = pure x := by intro _; rfl) (hix : ∀ i ∈ ix, i ∈ own.map (·.2) := by decide) : DS X E (.Assign [.Name y py] (.ListComp elt [⟨tg, iter, ifs, 0⟩] scope pos) spos) (sAsg (gLc gi t c g (own.map (·.2))) (nName i)) :=
  psImp (ps_setLc hc hN hy hyl hsw hi ok hg ht he hs) fun D σ H ⟨al, be, m, en, s, l, h⟩ =>
    lc_imp hix σ H _ ⟨al, be, m, en, s, l, PostS.ofOut h fun d al1 H1 m1 c1 s1 h1 v rv => h1 al1 H1 _ .refl s1 ((l.chg c1).set i rv)⟩
end
end L3
namespace L3
open PySem PySem.Spec L2
open PyProof.Rows hiding St

mutual
def D.bel (n : Nat) : D → Bool
  | .tup ds => D.bels n ds
  | .lst ds => D.bels n ds
  | .dK _ ds => D.bels n ds
  | .dT _ ds => D.bels n ds
  | .ins _ _ ds => D.bels n ds
  | .exc _ _ ds => D.bels n ds
  | .ref k => decide (k < n)
  | _ => true
def D.bels (n : Nat) : List D → Bool
  | [] => true
  | d :: ds => D.bel n d && D.bels n ds
end
def MO.bel (n : Nat) : MO → Bool
  | .lst ds => D.bels n ds
  | .dK kvs => D.bels n (kvs.map (·.2))
  | .dT kvs => D.bels n (kvs.map (·.2))
  | .ins _ fs => D.bels n (fs.map (·.2))
  | .tab _ => true
  | .sn ks => D.bels n ks
section
variable {K : PySem.W.Frag} {al al' be : List Addr} {H : Hp} {n : Nat}
mutual
theorem RD.bel (h1 : ∀ a u, Fz al be H a u → Fz al' be H a u) (h2 : ∀ (k : Nat) (a : Addr), k < n → al[k]? = some a → al'[k]? = some a) : ∀ {d : D} {v : V}, D.bel n d = true → RD K al be H d v → RD K al' be H d v
  | .non, _, _, h => by unfold RD at *; exact h
  | .bl _, _, _, h => by unfold RD at *; exact h
  | .int _, _, _, h => by unfold RD at *; exact h
  | .str _, _, _, h => by unfold RD at *; exact h
  | .ty _, _, _, h => by unfold RD at *; exact h
  | .cls _, _, _, h => by unfold RD at *; exact h
  | .scr ns, v, _, h => by
    unfold RD at *
    obtain ⟨a, e, h⟩ := h
    exact ⟨a, e, h.imp (h1 _ _) (fun q => q.imp (fun ⟨o, q⟩ => ⟨o, h1 _ _ q⟩) id)⟩
  | .tup ds, v, b, h => by
    unfold D.bel at b
    unfold RD at *
    obtain ⟨a, vs, e, h, r⟩ := h
    exact ⟨a, vs, e, h1 _ _ h, RDs.bels h1 h2 b r⟩
  | .lst ds, v, b, h => by
    unfold D.bel at b
    unfold RD at *
    obtain ⟨a, vs, e, h, r⟩ := h
    exact ⟨a, vs, e, h1 _ _ h, RDs.bels h1 h2 b r⟩
  | .dK ks ds, v, b, h => by
    unfold D.bel at b
    unfold RD at *
    obtain ⟨a, kvs, e, h, q, r⟩ := h
    exact ⟨a, kvs, e, h1 _ _ h, q, RDs.bels h1 h2 b r⟩
  | .dT ks ds, v, b, h => by
    unfold D.bel at b
    unfold RD at *
    obtain ⟨a, kvs, e, h, q, r⟩ := h
    exact ⟨a, kvs, e, h1 _ _ h, q, RDs.bels h1 h2 b r⟩
  | .ins c ns ds, v, b, h => by
    unfold D.bel at b
    unfold RD at *
    obtain ⟨a, dx, fs, e, h, q, r⟩ := h
    exact ⟨a, dx, fs, e, h1 _ _ h, q, RDs.bels h1 h2 b r⟩
  | .exc c ns ds, v, b, h => by
    unfold D.bel at b
    unfold RD at *
    obtain ⟨a, dx, fs, e, h, h', q, r⟩ := h
    exact ⟨a, dx, fs, e, h1 _ _ h, ⟨fun d ed => h1 _ _ (h'.1 d ed), h'.2⟩, q, RDs.bels h1 h2 b r⟩
  | .ref k, v, b, h => by
    unfold D.bel at b
    unfold RD at *
    obtain ⟨a, e, q⟩ := h
    exact ⟨a, h2 _ _ (of_decide_eq_true b) e, q⟩
theorem RDs.bels (h1 : ∀ a u, Fz al be H a u → Fz al' be H a u) (h2 : ∀ (k : Nat) (a : Addr), k < n → al[k]? = some a → al'[k]? = some a) : ∀ {ds : List D} {vs : List V}, D.bels n ds = true → RDs K al be H ds vs → RDs K al' be H ds vs
  | [], [], _, h => by unfold RDs at *; exact h
  | [], _ :: _, _, h => by unfold RDs at h; exact h.elim
  | _ :: _, [], _, h => by unfold RDs at h; exact h.elim
  | d :: ds, v :: vs, b, h => by
    unfold D.bels at b
    simp only [Bool.and_eq_true] at b
    unfold RDs at *
    exact ⟨RD.bel h1 h2 b.1 h.1, RDs.bels h1 h2 b.2 h.2⟩
end
theorem RO.bel (h1 : ∀ a u, Fz al be H a u → Fz al' be H a u) (h2 : ∀ (k : Nat) (a : Addr), k < n → al[k]? = some a → al'[k]? = some a) {a : Addr} {o : MO} (b : MO.bel n o = true) (h : RO K al be H a o) : RO K al' be H a o := by
  cases o with
  | lst ds => obtain ⟨vs, e, r⟩ := h; exact ⟨vs, e, r.bels h1 h2 b⟩
  | dK kvs => obtain ⟨vs, e, q, r⟩ := h; exact ⟨vs, e, q, r.bels h1 h2 b⟩
  | dT kvs => obtain ⟨vs, e, q, r⟩ := h; exact ⟨vs, e, q, r.bels h1 h2 b⟩
  | ins c fs => obtain ⟨dx, vs, e, q, r⟩ := h; exact ⟨dx, vs, e, q, r.bels h1 h2 b⟩
  | tab q => obtain ⟨ea, ps, e, t, r⟩ := h; exact ⟨ea, ps, e, t, fun pos cv hc => let ⟨c, e1, e2⟩ := r pos cv hc; ⟨c, e1, h1 _ _ e2⟩⟩
  | sn ks => obtain ⟨xs, e, r, q⟩ := h; exact ⟨xs, e, r.bels h1 h2 b, q⟩
end

def allO {α β : Type} (f : α → Option β) : List α → Option (List β)
  | [] => some []
  | a :: as => match f a, allO f as with
    | some b, some bs => some (b :: bs)
    | _, _ => none
def frz (m : Sto) (n : Nat) : Nat → D → Option D
  | 0, _ => none
  | f + 1, d => if D.bel n d = true then some d else match d with
    | .tup ds => (allO (frz m n f) ds).map .tup
    | .lst ds => (allO (frz m n f) ds).map .lst
    | .dK ks ds => (allO (frz m n f) ds).map (.dK ks)
    | .dT ks ds => (allO (frz m n f) ds).map (.dT ks)
    | .ins c ns ds => (allO (frz m n f) ds).map (.ins c ns)
    | .exc c ns ds => (allO (frz m n f) ds).map (.exc c ns)
    | .ref k => match m[k]? with
      | some (.lst ds) => (allO (frz m n f) ds).map .lst
      | some (.dK kvs) => (allO (frz m n f) (kvs.map (·.2))).map (.dK (kvs.map (·.1)))
      | some (.dT kvs) => (allO (frz m n f) (kvs.map (·.2))).map (.dT (kvs.map (·.1)))
      | some (.ins c fs) => (allO (frz m n f) (fs.map (·.2))).map (.ins c (fs.map (·.1)))
      | some (.tab _) => none
      | some (.sn _) => none
      | none => none
    | d => some d
section
variable {K : PySem.W.Frag} {al be : List Addr} {H : Hp} {m : Sto} {n : Nat}
theorem allO_rds {f : D → Option D} (hf : ∀ d d' v, f d = some d' → RD K al be H d v → RD K (al.take n) be H d' v) : ∀ {ds ds' : List D} {vs : List V}, allO f ds = some ds' → RDs K al be H ds vs → RDs K (al.take n) be H ds' vs
  | [], ds', vs, e, r => by
    unfold allO at e
    cases e
    rw [r.nil_inv]; exact RDs.nil
  | d :: ds, ds', vs, e, r => by
    unfold allO at e
    split at e <;> cases e
    rename_i x xs e1 e2
    obtain ⟨v, r', rfl, r1, r2⟩ := r.cons_inv
    exact .cons (hf _ _ _ e1 r1) (allO_rds hf e2 r2)
theorem take_fz {a : Addr} {u : HO} (h : Fz al be H a u) : Fz (al.take n) be H a u := ⟨h.1, fun q => h.2.1 (List.mem_of_mem_take q), h.2.2⟩
theorem take_ix {k : Nat} {a : Addr} (hk : k < n) (h : al[k]? = some a) : (al.take n)[k]? = some a := by rw [List.getElem?_take, if_pos hk]; exact h
theorem take_notin (nd : al.Nodup) {k : Nat} {a : Addr} (hk : n ≤ k) (h : al[k]? = some a) : a ∉ al.take n := fun q => by
  obtain ⟨j, hj, e⟩ := List.mem_iff_getElem.mp q
  have hj' : j < n := by rw [List.length_take] at hj; omega
  have e1 : al[j]? = some a := by
    rw [List.getElem_take] at e
    rw [← e]
    exact List.getElem?_eq_getElem _
  have := nodup_get nd e1 h
  omega
theorem frz_ok (s : SS K al be H m) : ∀ (f : Nat) (d d' : D) (v : V), frz m n f d = some d' → RD K al be H d v → RD K (al.take n) be H d' v
  | 0, d, d', v, e, r => by unfold frz at e; cases e
  | f + 1, d, d', v, e, r => by
    have ih := frz_ok s f
    unfold frz at e
    split at e
    · rename_i hb
      cases e
      exact r.bel (fun _ _ => take_fz) (fun _ _ hk h => take_ix hk h) hb
    · rename_i hb
      have kk : ∀ {α : Type} {o : Option (List D)} {c : List D → D}, o.map c = some d' → ∃ x, o = some x ∧ c x = d' := fun {_ o c} h => by
        cases o with
        | none => cases h
        | some x => exact ⟨x, rfl, Option.some.inj h⟩
      split at e
      · obtain ⟨x, e1, rfl⟩ := kk (α := D) e
        unfold RD at r ⊢
        obtain ⟨a, vs, e', f', r⟩ := r
        exact ⟨a, vs, e', take_fz f', allO_rds ih e1 r⟩
      · obtain ⟨x, e1, rfl⟩ := kk (α := D) e
        unfold RD at r ⊢
        obtain ⟨a, vs, e', f', r⟩ := r
        exact ⟨a, vs, e', take_fz f', allO_rds ih e1 r⟩
      · obtain ⟨x, e1, rfl⟩ := kk (α := D) e
        unfold RD at r ⊢
        obtain ⟨a, vs, e', f', q, r⟩ := r
        exact ⟨a, vs, e', take_fz f', q, allO_rds ih e1 r⟩
      · obtain ⟨x, e1, rfl⟩ := kk (α := D) e
        unfold RD at r ⊢
        obtain ⟨a, vs, e', f', q, r⟩ := r
        exact ⟨a, vs, e', take_fz f', q, allO_rds ih e1 r⟩
      · obtain ⟨x, e1, rfl⟩ := kk (α := D) e
        unfold RD at r ⊢
        obtain ⟨a, dx, vs, e', f', q, r⟩ := r
        exact ⟨a, dx, vs, e', take_fz f', q, allO_rds ih e1 r⟩
      · obtain ⟨x, e1, rfl⟩ := kk (α := D) e
        unfold RD at r ⊢
        obtain ⟨a, dx, vs, e', f', f2, q, r⟩ := r
        exact ⟨a, dx, vs, e', take_fz f', ⟨fun d ed => take_fz (f2.1 d ed), f2.2⟩, q, allO_rds ih e1 r⟩
      · rename_i k
        have hk : n ≤ k := by
          unfold D.bel at hb
          exact Nat.le_of_not_lt (fun q => hb (decide_eq_true q))
        obtain ⟨a, ea, rfl⟩ := rd_ref.mp r
        have na := take_notin s.nd hk ea
        have nb := s.dis a (List.mem_of_getElem? ea)
        split at e
        · rename_i ds em
          obtain ⟨x, e1, rfl⟩ := kk (α := D) e
          obtain ⟨b, eb, vs, hv, rv⟩ := s.store em
          rw [ea] at eb; cases eb
          unfold RD
          exact ⟨a, vs, rfl, ⟨hv, na, nb⟩, allO_rds ih e1 rv⟩
        · rename_i ds em
          obtain ⟨x, e1, rfl⟩ := kk (α := D) e
          obtain ⟨b, eb, vs, hv, q, rv⟩ := s.store em
          rw [ea] at eb; cases eb
          unfold RD
          exact ⟨a, vs, rfl, ⟨.inl hv, na, nb⟩, q, allO_rds ih e1 rv⟩
        · rename_i ds em
          obtain ⟨x, e1, rfl⟩ := kk (α := D) e
          obtain ⟨b, eb, vs, hv, q, rv⟩ := s.store em
          rw [ea] at eb; cases eb
          unfold RD
          exact ⟨a, vs, rfl, ⟨.inl hv, na, nb⟩, q, allO_rds ih e1 rv⟩
        · rename_i c fs em
          obtain ⟨x, e1, rfl⟩ := kk (α := D) e
          obtain ⟨b, eb, dx, vs, hv, q, rv⟩ := s.store em
          rw [ea] at eb; cases eb
          unfold RD
          exact ⟨a, dx, vs, rfl, ⟨hv, na, nb⟩, q, allO_rds ih e1 rv⟩
        · cases e
        · cases e
        · cases e
      · cases e
        exfalso
        apply hb
        cases d <;> first | rfl | (rename_i h1 h2 h3 h4 h5 h6 h7; first | exact (h1 _ rfl).elim | exact (h2 _ rfl).elim | exact (h3 _ _ rfl).elim | exact (h4 _ _ rfl).elim | exact (h5 _ _ _ rfl).elim | exact (h6 _ _ _ rfl).elim | exact (h7 _ rfl).elim)
theorem SS.take (s : SS K al be H m) (hb : (m.take n).all (MO.bel n) = true) : SS K (al.take n) be H (m.take n) := by
  refine ⟨by simp [s.len], s.nd.sublist (List.take_sublist _ _), fun k a o e1 e2 => ?_, s.tr, fun a ha => s.dis a (List.mem_of_mem_take ha)⟩
  have hk : k < n := by
    have := (List.getElem?_eq_some_iff.mp e1).1
    rw [List.length_take] at this; omega
  have q1 : al[k]? = some a := by rw [List.getElem?_take, if_pos hk] at e1; exact e1
  have q2 : m[k]? = some o := by rw [List.getElem?_take, if_pos hk] at e2; exact e2
  have hbo : MO.bel n o = true := List.all_eq_true.mp hb o (List.mem_of_getElem? e2)
  exact (s.obj k a o q1 q2).bel (fun _ _ => take_fz) (fun _ _ hk h => take_ix hk h) hbo
end

def exitF (n : Nat) (d : D) (m : Sto) : Out D := if m.length = n then .ok d m else
  if (m.take n).all (MO.bel n) = true then (match frz m n 12 d with
    | some d' => .ok d' (m.take n)
    | none => .bad) else .bad
def exitK (_ : Nat) (d : D) (m : Sto) : Out D := .ok d m
def startE (n : Nat) (ds : List D) : Sl := ds.map some ++ List.replicate (n - ds.length) none
def runF (ext : Nat → D → Sto → Out D) (n : Nat) (g : GS) (ds : List D) (m : Sto) : Out D := match g (startE n ds) m with
  | .nx _ m' => ext m.length .non m'
  | .rt d m' => ext m.length d m'
  | .ex x m' => .ex x m'
  | _ => .bad
def ExtOk (ext : Nat → D → Sto → Out D) : Prop := ∀ (K : PySem.W.Frag) (al be : List Addr) (H : Hp) (m : Sto) (E : XK) (d : D) (m' : Sto) (Q : VK), SS K al be H m → Post K al be H E (ext m.length d m') (fun d al' H' _ => ∀ v, RD K al' be H' d v → Q v H') →
  ∀ al' H' v, Chg al H al' H' → SS K al' be H' m' → RD K al' be H' d v → Q v H'
theorem exitK_ok : ExtOk exitK := fun K al be H m E d m' Q s h al' H' v c s' r => h al' H' c s' v r
theorem exitF_ok : ExtOk exitF := fun K al be H m E d m' Q s h al' H' v c s' r => by
  unfold exitF at h
  split at h
  · exact h al' H' c s' v r
  · split at h
    · rename_i hb
      split at h
      · rename_i d' e
        have et : al'.take m.length = al := by
          obtain ⟨more, rfl⟩ := c.pre
          rw [← s.len]; simp
        have s2 := s'.take hb
        have r2 := frz_ok s' 12 d d' v e r
        rw [et] at s2 r2
        exact h al H' ⟨⟨[], by simp⟩, c.keep, fun a q n => absurd q n⟩ s2 v r2
      · exact h.elim
    · exact h.elim
abbrev FM := List D → Sto → Out D
def SpF (K : PySem.W.Frag) (n : Nat) (F : FM) : Sp := fun vs H Q E => ∃ al be m ds, SS K al be H m ∧ RDs K al be H ds vs ∧ ds.length = n ∧
  Post K al be H E (F ds m) fun d al' H' _ => ∀ v, RD K al' be H' d v → Q v H'
theorem SL.start {K : PySem.W.Frag} {al be : List Addr} {H : Hp} {N : List Str} {ds : List D} {vs : List V} (r : RDs K al be H ds vs) : SL K al be H (L2.start N vs) (startE N.length ds) := by
  have hl := r.length
  refine ⟨by simp [L2.start, startE, hl], fun i d e => ?_⟩
  unfold startE at e
  by_cases hi : i < ds.length
  · rw [List.getElem?_append_left (by simpa using hi), List.getElem?_map] at e
    cases ed : ds[i]? with
    | none => rw [ed] at e; cases e
    | some x =>
      rw [ed] at e; cases e
      obtain ⟨v, ev, rv⟩ := r.get ed
      refine ⟨v, ?_, rv⟩
      unfold L2.start
      rw [List.getElem?_append_left (by rw [List.length_map, hl]; exact hi), List.getElem?_map, ev]; rfl
  · rw [List.getElem?_append_right (by simpa using hi)] at e
    rw [List.getElem?_replicate] at e
    split at e <;> cases e
theorem body_ok {K : PySem.W.Frag} {N ps : List Str} {F : FM} {g : GS} {ext : Nat → D → Sto → Out D} (hx : ExtOk ext) (hF : ∀ ds m, F ds m = runF ext N.length g ds m) {vs : List V} {H : Hp} {Q : VK} {E : XK} (h : SpF K ps.length F vs H Q E) :
    tS K E g { nx := fun _ H' => Q .non H', rt := Q } (L2.start N vs) H := by
  obtain ⟨al, be, m, ds, s, r, hl, h⟩ := h
  refine ⟨al, be, m, _, s, SL.start r, ?_⟩
  rw [hF] at h
  unfold runF at h
  cases e : g (startE N.length ds) m with
  | nx en m' =>
    rw [e] at h
    exact fun al' H' σ' c s' l' => hx K al be H m E .non m' Q s h al' H' .non c s' (rd_non.mpr rfl)
  | rt d m' =>
    rw [e] at h
    exact fun al' H' v c s' r' => hx K al be H m E d m' Q s h al' H' v c s' r'
  | ex x m' => rw [e] at h; exact h
  | bk en m' => rw [e] at h; exact h.elim
  | ct en m' => rw [e] at h; exact h.elim
  | bad => rw [e] at h; exact h.elim
end L3
namespace L3
open PySem PySem.Spec L2
open PyProof.Rows hiding St

structure Cal (P : Program) (w : World) (K : PySem.W.Frag) (mg : Str → Option Value) (base : Heap) (CX : CXT) (k : Nat) (x : Str) (n : Nat) (F : FM) : Prop where
  ex : ∃ (f : Addr) (fd : FuncData) (ps : List Str), FnOk P w K mg base CX k f fd ps (SpF K n F) ∧ mg x = some (.ref f) ∧ PySem.W.keepIn K (.ref f) = true ∧ Binds K fd ps []
structure CalM (P : Program) (w : World) (K : PySem.W.Frag) (mg : Str → Option Value) (base : Heap) (CX : CXT) (k : Nat) (c x : Str) (n : Nat) (F : FM) : Prop where
  ex : ∃ (f : Addr) (fd : FuncData) (ps : List Str), FnOk P w K mg base CX k f fd ps (SpF K n F) ∧ Meth K (He.ga K c) x f ∧ Cls K (He.ga K c) ∧ Binds K fd ps []
structure CalI (P : Program) (w : World) (K : PySem.W.Frag) (mg : Str → Option Value) (base : Heap) (CX : CXT) (k : Nat) (c : Str) (n : Nat) (F : FM) : Prop where
  ex : ∃ (f : Addr) (fd : FuncData) (ps : List Str), FnOk P w K mg base CX k f fd ps (SpF K n F) ∧ Mk K (He.ga K c) f ∧ mg c = some (.ref (He.ga K c)) ∧ Binds K fd ps []
def gCall (n : Nat) (F : FM) (gs : GA) : GE := fun en m => (gs en m).bind fun ds m1 => if ds.length = n then F ds m1 else .bad
def gMeth (c x : Str) (n : Nat) (F : FM) (go : GE) (gs : GA) : GE := fun en m => (go en m).bind fun o m1 => match insOf m1 o with
  | some (c', fs) => if c' = c ∧ fs.lookup x = none then (gs en m1).bind fun ds m2 => if ds.length + 1 = n then F (o :: ds) m2 else .bad else .bad
  | none => .bad
def gMakeM (c : Str) (n : Nat) (F : FM) (gs : GA) : GE := fun en m => (gs en m).bind fun ds m1 => if ds.length + 1 = n then (F (.ref m1.length :: ds) (m1 ++ [.ins c []])).bind fun d m2 => match d with
  | .non => .ok (.ref m1.length) m2
  | _ => .bad else .bad
section
variable {X : Cx} {CX : CXT} {E : XK} {k n : Nat} {x c : Str} {F : FM} {p pos apos : Pos} {e o : Expr} {es : List Expr} {gs : GA} {go : GE}
theorem call_imp : ∀ σ H Q, tG X.K E (gCall n F gs) σ H Q → tCall (SpF X.K n F) [] E (tGs X.K E gs) σ H Q := fun σ H Q ⟨al, be, m, en, s, l, h⟩ => ⟨al, be, m, en, s, l, Post.bind h fun ds al1 H1 m1 c1 s1 h1 vs rvs => by
  split at h1
  · rename_i hn
    exact ⟨al1, be, m1, ds, s1, by rw [List.append_nil]; exact rvs, hn, h1⟩
  · exact h1.elim⟩
theorem de_call (G : Cal X.prog X.w X.K X.mg X.base CX k x n F) (hr : Room k X.A) (hx : Passes CX X E) (hg : Gl X x) (ha : DA X E (e :: es) gs) (hdb : (x == ("__debug__" : Str)) = false := by decide)
    (he : starEach (e :: es) X.env = (false, eval e X.env) :: starEach es X.env := by rfl) (hpl : (backTo pos (starEach es X.env)).any (·.1) = false := by rfl) : DE X E (.Call (.Name x p) (e :: es) [] pos) (gCall n F gs) := by
  obtain ⟨f, fd, ps, hf, hm, hk, hb⟩ := G.ex
  exact peImp (pe_call hf hr hg hm hk hb .nil hx ha hdb he hpl) call_imp
theorem meth_imp : ∀ σ H Q, tG X.K E (gMeth c x n F go gs) σ H Q → tMeth (He.ga X.K c) x (SpF X.K n F) [] E (tG X.K E go) (tGs X.K E gs) σ H Q := fun σ H Q ⟨al, be, m, en, s, l, h⟩ => ⟨al, be, m, en, s, l, Post.bind h fun o al1 H1 m1 c1 s1 h1 v rv => by
  split at h1
  · rename_i c' fs ei
    split at h1
    · rename_i hc
      obtain ⟨hc, hl⟩ := hc
      subst hc
      obtain ⟨a, dx, vs, rfl, hv, rvs⟩ := insOf_ok s1 rv ei
      refine ⟨a, dx, vs, rfl, hv, ?_, al1, be, m1, en, s1, l.chg c1, Post.bind h1 fun ds al2 H2 m2 c2 s2 h2 us rus => ?_⟩
      · have q := lookup_rk (f := x) rvs
        rw [hl] at q
        cases eu : vs.lookup x with
        | none => rfl
        | some u => rw [eu] at q; exact q.elim
      · split at h2
        · rename_i hn
          exact ⟨al2, be, m2, o :: ds, s2, by rw [List.append_nil]; exact RDs.cons (c2.rd rv) rus, hn, h2⟩
        · exact h2.elim
    · exact h1.elim
  · exact h1.elim⟩
theorem de_meth {pl : Sem Bool} (ho : DE X E o go) (G : CalM X.prog X.w X.K X.mg X.base CX k c x n F) (hr : Room k X.A) (hx : Passes CX X E) (ha : DA X E (e :: es) gs) (hst : starEach (e :: es) X.env = (false, eval e X.env) :: starEach es X.env := by rfl) (hpl : (backTo pos (starEach es X.env)).any (·.1) = false := by rfl)
    (ht : eval (.Call (.Attribute o x apos) (e :: es) [] pos) X.env = (do
      let ov ← eval o X.env
      standAt apos.atName
      let (f, first) ← holding [ov] (getMethod ov x pl)
      callWith pos f first (backTo pos (starEach (e :: es) X.env)) (backToKw pos (keywordEach [] X.env))) := by rfl) : DE X E (.Call (.Attribute o x apos) (e :: es) [] pos) (gMeth c x n F go gs) := by
  obtain ⟨f, fd, ps, hf, hm, hc, hb⟩ := G.ex
  exact peImp (pe_meth ho hc hm hf hr hb .nil hx ha hst hpl ht) meth_imp
theorem de_meth0 {pl : Sem Bool} (ho : DE X E o go) (G : CalM X.prog X.w X.K X.mg X.base CX k c x n F) (hr : Room k X.A) (hx : Passes CX X E)
    (ht : eval (.Call (.Attribute o x apos) [] [] pos) X.env = (do
      let ov ← eval o X.env
      standAt apos.atName
      let (f, first) ← holding [ov] (getMethod ov x pl)
      callWith pos f first (backTo pos (starEach [] X.env)) (backToKw pos (keywordEach [] X.env))) := by rfl) : DE X E (.Call (.Attribute o x apos) [] [] pos) (gMeth c x n F go aNil) := by
  obtain ⟨f, fd, ps, hf, hm, hc, hb⟩ := G.ex
  refine peImp (pe_meth0 ho hc hm hf hr hb .nil hx ht) fun σ H Q h => ?_
  have h := meth_imp σ H Q h
  unfold tMeth at h ⊢
  obtain ⟨al, be, m, en, s, l, h⟩ := h
  refine ⟨al, be, m, en, s, l, h.mono fun b al' H' m' c1 s1 q v rv => ?_⟩
  obtain ⟨a, dx, fs, e, h1, h2, al2, be2, m2, en2, s2, l2, h3⟩ := q v rv
  exact ⟨a, dx, fs, e, h1, h2, h3.now s2 _ RDs.nil⟩
theorem new_ins {K : PySem.W.Frag} {al be : List Addr} {H : Hp} {m : Sto} {y dx : Addr} (s : SS K al be H m) (hy : H y = none) (hd : H dx = none) (ne : dx ≠ y) :
    Chg al H (al ++ [y]) (upd (upd H dx (.own y)) y (.ins (He.ga K c) dx [])) ∧ SS K (al ++ [y]) be (upd (upd H dx (.own y)) y (.ins (He.ga K c) dx [])) (m ++ [.ins c []]) ∧ RD K (al ++ [y]) be (upd (upd H dx (.own y)) y (.ins (He.ga K c) dx [])) (.ref m.length) (.ref y) := by
  have h1 : Chg al H al (upd H dx (.own y)) := Chg.ext (ext_upd hd)
  have s1 : SS K al be (upd H dx (.own y)) m := s.upd hd
  have hy' : upd H dx (.own y) y = none := by rw [upd_ne (Ne.symm ne)]; exact hy
  refine ⟨h1.trans (Chg.push hy'), s1.push hy' ⟨dx, [], upd_same, RK.nil⟩, rd_ref.mpr ⟨y, ?_, rfl⟩⟩
  rw [← s.len, List.getElem?_append_right (Nat.le_refl _)]
  simp
theorem makeM_imp : ∀ σ H Q, tG X.K E (gMakeM c n F gs) σ H Q → tMake (He.ga X.K c) (SpF X.K n F) [] E (tGs X.K E gs) σ H Q := fun σ H Q ⟨al, be, m, en, s, l, h⟩ => ⟨al, be, m, en, s, l, Post.bind h fun ds al1 H1 m1 c1 s1 h1 vs rvs y dx hy hd ne => by
  split at h1
  · rename_i hn
    obtain ⟨cn, sn, rn⟩ := new_ins (c := c) s1 hy hd ne
    have rn0 := cn.rds rvs
    refine ⟨_, be, _, .ref m1.length :: ds, sn, by rw [List.append_nil]; exact RDs.cons rn (cn.rds rvs), hn, Post.bind (Post.chg h1 cn) fun d al2 H2 m2 c2 s2 h2 v rv => ?_⟩
    split at h2
    · exact ⟨rd_non.mp rv, h2.now s2 _ (c2.rd rn)⟩
    · exact h2.elim
  · exact h1.elim⟩
theorem de_makeM (G : CalI X.prog X.w X.K X.mg X.base CX k c n F) (hr : Room (k + 1) X.A) (hx : Passes CX X E) (hg : Gl X c) (ha : DA X E (e :: es) gs) (hdb : (c == ("__debug__" : Str)) = false := by decide)
    (he : starEach (e :: es) X.env = (false, eval e X.env) :: starEach es X.env := by rfl) (hpl : (backTo pos (starEach es X.env)).any (·.1) = false := by rfl) : DE X E (.Call (.Name c p) (e :: es) [] pos) (gMakeM c n F gs) := by
  obtain ⟨f, fd, ps, hf, hm, hk, hb⟩ := G.ex
  exact peImp (pe_make hm hf hr hg hk hb .nil hx ha hdb he hpl) makeM_imp
end

def OpN (K : PySem.W.Frag) (E : XK) (f : FM) (r : List V → Hp → VK → Prop) : Prop :=
  ∀ (al be : List Addr) (H : Hp) (m : Sto) (ds : List D) (vs : List V) (Q : VK), SS K al be H m → RDs K al be H ds vs →
    Post K al be H E (f ds m) (fun d al' H' _ => ∀ v, RD K al' be H' d v → Q v H') → r vs H Q
def gB (f : FM) (gs : GA) : GE := fun en m => (gs en m).bind f
def OpM (K : PySem.W.Frag) (E : XK) (T : String) (f : D → FM) (r : V → List V → Hp → VK → Prop) : Prop :=
  ∀ (al be : List Addr) (H : Hp) (m : Sto) (o : D) (ds : List D) (v : V) (vs : List V) (Q : VK), SS K al be H m → RD K al be H o v → RDs K al be H ds vs →
    Post K al be H E (f o ds m) (fun d al' H' _ => ∀ v, RD K al' be H' d v → Q v H') → r v vs H Q
def tyM (m : Sto) (T : String) : D → Bool
  | .str _ => decide (T = "str")
  | .int _ => decide (T = "int")
  | .lst _ => decide (T = "list")
  | .ref k => match m[k]? with
    | some (.lst _) => decide (T = "list")
    | some (.dK _) => decide (T = "dict")
    | some (.dT _) => decide (T = "dict")
    | _ => false
  | _ => false
theorem tyM_ok {K : PySem.W.Frag} {al be : List Addr} {H : Hp} {m : Sto} {T : String} {d : D} {v : V} (s : SS K al be H m) (r : RD K al be H d v) (h : tyM m T d = true) : tyV K T v H := by
  unfold tyM at h
  split at h
  · rw [rd_str.mp r]; exact (of_decide_eq_true h : T = "str")
  · rw [rd_int.mp r]; exact (of_decide_eq_true h : T = "int")
  · obtain ⟨a, vs, rfl, q, _⟩ := rd_lst r
    exact .inl ⟨of_decide_eq_true h, vs, SqL.of q⟩
  · obtain ⟨a, ea, rfl⟩ := rd_ref.mp r
    split at h
    · rename_i e
      obtain ⟨b, eb, vs, hv, _⟩ := s.store e
      rw [ea] at eb; cases eb
      exact .inl ⟨of_decide_eq_true h, vs, SqL.of hv⟩
    · rename_i e
      obtain ⟨b, eb, vs, hv, _⟩ := s.store e
      rw [ea] at eb; cases eb
      exact .inr (.inr (.inl ⟨of_decide_eq_true h, .inl ⟨vs, hv⟩⟩))
    · rename_i e
      obtain ⟨b, eb, vs, hv, _⟩ := s.store e
      rw [ea] at eb; cases eb
      exact .inr (.inr (.inl ⟨of_decide_eq_true h, .inr ⟨vs, hv⟩⟩))
    · cases h
  · cases h
def gBM (T : String) (f : D → FM) (go : GE) (gs : GA) : GE := fun en m => (go en m).bind fun o m1 => if tyM m1 T o = true then (gs en m1).bind fun ds m2 => f o ds m2 else .bad
section
variable {X : Cx} {E : XK} {x : Str} {p pos apos cpos : Pos} {e o : Expr} {es : List Expr} {gs : GA} {go : GE} {f : FM} {fm : D → FM} {id T : String} {r : List V → Hp → VK → Prop} {rm : V → List V → Hp → VK → Prop}
theorem cb_imp (hf : OpN X.K E f r) : ∀ σ H Q, tG X.K E (gB f gs) σ H Q → tCB r (tGs X.K E gs) σ H Q := fun σ H Q ⟨al, be, m, en, s, l, h⟩ => ⟨al, be, m, en, s, l, Post.bind h fun ds al1 H1 m1 c1 s1 h1 vs rvs => hf al1 be H1 m1 ds vs Q s1 rvs h1⟩
theorem de_b (hc : CallR X (.builtin id) r) (hf : OpN X.K E f r) (hg : Gl X x) (hm : X.mg x = none) (hv : bootBuiltins x = some (.builtin id)) (ha : DA X E (e :: es) gs) (hn : x ≠ "__name__" := by decide) (hdb : (x == ("__debug__" : Str)) = false := by decide)
    (he : starEach (e :: es) X.env = (false, eval e X.env) :: starEach es X.env := by rfl) (hpl : (backTo pos (starEach es X.env)).any (·.1) = false := by rfl) : DE X E (.Call (.Name x p) (e :: es) [] pos) (gB f gs) := peImp (pe_callB hc hg hm hv ha hn hdb he hpl) (cb_imp hf)
theorem de_bT (hc : CallR X (.type T) r) (hf : OpN X.K E f r) (hg : Gl X x) (hm : X.mg x = none) (hv : bootBuiltins x = some (.type T)) (ha : DA X E (e :: es) gs) (hn : x ≠ "__name__" := by decide) (hdb : (x == ("__debug__" : Str)) = false := by decide)
    (he : starEach (e :: es) X.env = (false, eval e X.env) :: starEach es X.env := by rfl) (hpl : (backTo pos (starEach es X.env)).any (·.1) = false := by rfl) : DE X E (.Call (.Name x p) (e :: es) [] pos) (gB f gs) := peImp (pe_callTy hc hg hm hv ha hn hdb he hpl) (cb_imp hf)
theorem bm_imp (hf : OpM X.K E T fm rm) : ∀ σ H Q, tG X.K E (gBM T fm go gs) σ H Q → tBM X.K T rm (tG X.K E go) (tGs X.K E gs) σ H Q := fun σ H Q ⟨al, be, m, en, s, l, h⟩ => ⟨al, be, m, en, s, l, Post.bind h fun o al1 H1 m1 c1 s1 h1 v rv => by
  split at h1
  · rename_i ht
    exact ⟨tyM_ok s1 rv ht, al1, be, m1, en, s1, l.chg c1, Post.bind h1 fun ds al2 H2 m2 c2 s2 h2 vs rvs => hf al2 be H2 m2 o ds v vs Q s2 (c2.rd rv) rvs h2⟩
  · exact h1.elim⟩
theorem de_bm {name : Str} (pa : PlainAttrs T) (slot : Slot T name id) (hty : typeOf (.builtin id) = pure (.type "method_descriptor")) (hm : MtR X id rm) (hf : OpM X.K E T fm rm) (ho : DE X E o go) (ha : DA X E (e :: es) gs) (hbase : attributeBase o name X.env (eval o X.env) = eval o X.env := by rfl)
    (hfew : ((backTo cpos (starEach (e :: es) X.env)).all (fun x => !x.1) && (backToKw cpos (keywordEach [] X.env)).all (fun x => x.1.isSome)
      && decide ((e :: es).length + ([] : List Keyword).length + (if ([] : List Keyword).isEmpty then 0 else 1) < 30)) = true := by rfl)
    (hline : (apos.endLine == cpos.line) = true := by rfl) (hs : starEach (e :: es) X.env = (false, eval e X.env) :: starEach es X.env := by rfl) (hplain : (backTo cpos (starEach es X.env)).any (·.1) = false := by rfl) :
    DE X E (.Call (.Attribute o name apos) (e :: es) [] cpos) (gBM T fm go gs) := peImp (pe_bm pa slot hty hm ho ha hbase hfew hline hs hplain) (bm_imp hf)
theorem de_bm0 {name : Str} (pa : PlainAttrs T) (slot : Slot T name id) (hty : typeOf (.builtin id) = pure (.type "method_descriptor")) (hm : MtR X id rm) (hf : OpM X.K E T fm rm) (ho : DE X E o go) (hbase : attributeBase o name X.env (eval o X.env) = eval o X.env := by rfl)
    (hline : (apos.endLine == cpos.line) = true := by rfl) : DE X E (.Call (.Attribute o name apos) [] [] cpos) (gBM T fm go aNil) :=
  peImp (pe_bm0 pa slot hty hm ho hbase hline) fun σ H Q ⟨al, be, m, en, s, l, h⟩ => ⟨al, be, m, en, s, l, Post.bind h fun o al1 H1 m1 c1 s1 h1 v rv => by
    split at h1
    · rename_i ht
      exact ⟨tyM_ok s1 rv ht, hf al1 be H1 m1 o [] v [] Q s1 rv RDs.nil h1⟩
    · exact h1.elim⟩
end

section
variable {K : PySem.W.Frag} {al be : List Addr} {H : Hp} {m : Sto}
theorem RDs.one {d : D} {vs : List V} (r : RDs K al be H [d] vs) : ∃ v, vs = [v] ∧ RD K al be H d v := by
  obtain ⟨v, r', rfl, h1, h2⟩ := r.cons_inv
  obtain rfl := h2.nil_inv
  exact ⟨v, rfl, h1⟩
theorem RDs.two {d e : D} {vs : List V} (r : RDs K al be H [d, e] vs) : ∃ v w, vs = [v, w] ∧ RD K al be H d v ∧ RD K al be H e w := by
  obtain ⟨v, r', rfl, h1, h2⟩ := r.cons_inv
  obtain ⟨w, rfl, h3⟩ := h2.one
  exact ⟨v, w, rfl, h1, h3⟩
end
def bAbs : FM := fun ds m => match ds with
  | [.int i] => .ok (.int (if i < 0 then -i else i)) m
  | _ => .bad
def bInt : FM := fun ds m => match ds with
  | [.int i] => .ok (.int i) m
  | [.bl k] => .ok (.int (if k then 1 else 0)) m
  | _ => .bad
def bMax2 : FM := fun ds m => match ds with
  | [.int i, .int j] => .ok (.int (if j > i then j else i)) m
  | _ => .bad
def bMin2 : FM := fun ds m => match ds with
  | [.int i, .int j] => .ok (.int (if j < i then j else i)) m
  | _ => .bad
def bLen : FM := fun ds m => match ds with
  | [.str x] => if x.length ≤ sizeLine then .ok (.int x.length) m else .bad
  | [d] => match seqOf m d with
    | some es => .ok (.int es.length) m
    | none => .bad
  | _ => .bad
def bList : FM := fun ds m => match ds with
  | [d] => match seqOf m d with
    | some es => .ok (.lst es) m
    | none => .bad
  | _ => .bad
def bTuple : FM := fun ds m => match ds with
  | [d] => match seqOf m d with
    | some es => .ok (.tup es) m
    | none => .bad
  | _ => .bad
def blsOf : List D → Option (List Bool)
  | [] => some []
  | .bl i :: r => (blsOf r).map (i :: ·)
  | _ => none
def bAll : FM := fun ds m => match ds with
  | [d] => match (lstOf m d).bind blsOf with
    | some bs => .ok (.bl (bs.all id)) m
    | none => .bad
  | _ => .bad
def bAny : FM := fun ds m => match ds with
  | [d] => match (lstOf m d).bind blsOf with
    | some bs => .ok (.bl (bs.any id)) m
    | none => .bad
  | _ => .bad
theorem blsOf_ok : ∀ {ds : List D} {bs : List Bool}, blsOf ds = some bs → ds = bs.map D.bl
  | [], bs, h => by unfold blsOf at h; cases h; rfl
  | d :: ds, bs, h => by
    cases d <;> unfold blsOf at h <;> try cases h
    cases e : blsOf ds with
    | none => rw [e] at h; cases h
    | some r => rw [e] at h; cases h; rw [blsOf_ok e]; rfl
theorem blsOf_map : ∀ bs : List Bool, blsOf (bs.map D.bl) = some bs
  | [] => rfl
  | b :: bs => by simp [blsOf, blsOf_map bs]
section
variable {K : PySem.W.Frag} {E : XK}
theorem RDs.bls_inv {al be : List Addr} {H : Hp} : ∀ {bs : List Bool} {vs : List V}, RDs K al be H (bs.map D.bl) vs → vs = bs.map V.bl
  | [], vs, h => h.nil_inv
  | n :: ns, vs, h => by
    obtain ⟨v, r, rfl, h1, h2⟩ := RDs.cons_inv h
    rw [rd_bl.mp h1, RDs.bls_inv h2]; rfl
theorem on_abs : OpN K E bAbs (fun xs H Q => ∃ i, xs = [.int i] ∧ Q (.int (if i < 0 then -i else i)) H) := fun al be H m ds vs Q s r h => by
  unfold bAbs at h
  split at h
  · obtain ⟨v, rfl, rv⟩ := r.one
    exact ⟨_, by rw [rd_int.mp rv], h.now s _ (rd_int.mpr rfl)⟩
  · exact h.elim
theorem on_int : OpN K E bInt (fun xs H Q => (∃ i, xs = [.int i] ∧ Q (.int i) H) ∨ ∃ k, xs = [.bl k] ∧ Q (.int (if k then 1 else 0)) H) := fun al be H m ds vs Q s r h => by
  unfold bInt at h
  split at h
  · obtain ⟨v, rfl, rv⟩ := r.one
    exact .inl ⟨_, by rw [rd_int.mp rv], h.now s _ (rd_int.mpr rfl)⟩
  · obtain ⟨v, rfl, rv⟩ := r.one
    exact .inr ⟨_, by rw [rd_bl.mp rv], h.now s _ (rd_int.mpr rfl)⟩
  · exact h.elim
theorem on_max2 : OpN K E bMax2 (fun xs H Q => ∃ i j, xs = [.int i, .int j] ∧ Q (.int (if j > i then j else i)) H) := fun al be H m ds vs Q s r h => by
  unfold bMax2 at h
  split at h
  · obtain ⟨v, w, rfl, rv, rw'⟩ := r.two
    exact ⟨_, _, by rw [rd_int.mp rv, rd_int.mp rw'], h.now s _ (rd_int.mpr rfl)⟩
  · exact h.elim
theorem on_min2 : OpN K E bMin2 (fun xs H Q => ∃ i j, xs = [.int i, .int j] ∧ Q (.int (if j < i then j else i)) H) := fun al be H m ds vs Q s r h => by
  unfold bMin2 at h
  split at h
  · obtain ⟨v, w, rfl, rv, rw'⟩ := r.two
    exact ⟨_, _, by rw [rd_int.mp rv, rd_int.mp rw'], h.now s _ (rd_int.mpr rfl)⟩
  · exact h.elim
theorem on_len : OpN K E bLen (fun xs H Q => ∃ x n, xs = [x] ∧ LenV K x H n ∧ Q (.int n) H) := fun al be H m ds vs Q s r h => by
  unfold bLen at h
  split at h
  · split at h
    · rename_i hl
      obtain ⟨v, rfl, rv⟩ := r.one
      exact ⟨_, _, rfl, by rw [rd_str.mp rv]; exact ⟨hl, rfl⟩, h.now s _ (rd_int.mpr rfl)⟩
    · exact h.elim
  · split at h
    · rename_i es e
      obtain ⟨v, rfl, rv⟩ := r.one
      obtain ⟨a, us, rfl, q, ru⟩ := seqOf_ok s rv e
      refine ⟨_, es.length, rfl, ?_, h.now s _ (rd_int.mpr rfl)⟩
      exact q.imp (fun q => ⟨us, q, ru.length.symm⟩) fun q => ⟨us, q, ru.length.symm⟩
    · exact h.elim
  · exact h.elim
theorem on_list : OpN K E bList (fun xs H Q => ∃ p ys, xs = [.ref p] ∧ (SqL K H p ys ∨ SqT K H p ys) ∧ ∀ l, H l = none → Q (.ref l) (upd H l (.lst ys))) := fun al be H m ds vs Q s r h => by
  unfold bList at h
  split at h
  · split at h
    · rename_i es e
      obtain ⟨v, rfl, rv⟩ := r.one
      obtain ⟨a, us, rfl, q, ru⟩ := seqOf_ok s rv e
      exact ⟨a, us, rfl, q, fun l hl => h al _ (Chg.ext (ext_upd hl)) (s.upd hl) _ (rd_newLst s hl ru)⟩
    · exact h.elim
  · exact h.elim
theorem seqOf_tup {al be : List Addr} {H : Hp} {m : Sto} {d : D} {v : V} {es : List D} (s : SS K al be H m) (r : RD K al be H d v) (h : seqOf m d = some es) : ∃ a us, v = .ref a ∧ RDs K al be H es us ∧ (SqL K H a us ∨ SqT K H a us ∧ d = .tup es) := by
  unfold seqOf at h
  split at h
  · cases h
    obtain ⟨a, vs, e, q, r⟩ := rd_tup r
    exact ⟨a, vs, e, r, .inr ⟨q, rfl⟩⟩
  · cases h
    obtain ⟨a, e, q⟩ := rd_scr r
    exact ⟨a, _, e, RDs.ints, .inl q⟩
  · obtain ⟨a, vs, e, q, r⟩ := lstOf_ok s r h
    exact ⟨a, vs, e, r, .inl (SqL.of q)⟩
theorem on_tuple : OpN K E bTuple (fun xs H Q => ∃ p ys, xs = [.ref p] ∧ ((SqL K H p ys ∧ ∀ l, H l = none → Q (.ref l) (upd H l (.tup ys))) ∨ (SqT K H p ys ∧ Q (.ref p) H))) := fun al be H m ds vs Q s r h => by
  unfold bTuple at h
  split at h
  · split at h
    · rename_i es e
      obtain ⟨v, rfl, rv⟩ := r.one
      obtain ⟨a, us, rfl, ru, q⟩ := seqOf_tup s rv e
      refine ⟨a, us, rfl, ?_⟩
      rcases q with q | ⟨q, rfl⟩
      · exact .inl ⟨q, fun l hl => h al _ (Chg.ext (ext_upd hl)) (s.upd hl) _ (rd_newTup s hl ru)⟩
      · exact .inr ⟨q, h.now s _ rv⟩
    · exact h.elim
  · exact h.elim
end
end L3
namespace L3
open PySem PySem.Spec L2
open PyProof.Rows hiding St

section
variable {K : PySem.W.Frag} {E : XK}
theorem on_all : OpN K E bAll (rAll K) := fun al be H m ds vs Q s r h => by
  unfold bAll at h
  split at h
  · rename_i d
    split at h
    · rename_i bs e
      obtain ⟨v, rfl, rv⟩ := r.one
      cases e1 : lstOf m d with
      | none => rw [e1] at e; cases e
      | some es =>
        rw [e1] at e
        obtain ⟨a, us, rfl, q, ru⟩ := lstOf_ok s rv e1
        rw [blsOf_ok e] at ru
        rw [ru.bls_inv] at q
        exact ⟨a, bs, rfl, SqL.of q, h.now s _ (rd_bl.mpr rfl)⟩
    · exact h.elim
  · exact h.elim
def lstInts (m : Sto) (d : D) : Option (List Int) := match d with
  | .scr ns => some ns
  | d => (lstOf m d).bind intsOf
def oIx : D → D → Sto → Out D := fun x y m => match x, y with
  | .str z, .int i => if z.length ≤ sizeLine then (match atI z.cps.toList i with
    | some c => .ok (.str ⟨#[c]⟩) m
    | none => .bad) else .bad
  | x, y => match seqOf m x, y with
    | some ds, .int i => match atI ds i with
      | some d => .ok d m
      | none => .bad
    | some _, _ => .bad
    | none, y => match dLook m x y with
      | some (some d) => .ok d m
      | _ => .bad
def rIxD : R2 := fun x y H Q => ∃ a v, x = .ref a ∧ DGet H a y (some v) ∧ Q v H
theorem ix_dict {X : Cx} (hu : X.A.units + 1 < cLine) : IxR X rIxD := by
  intro value slice pins s σ H x y v u Q I rx ry h hs
  obtain ⟨a, z, rfl, g, q⟩ := h
  cases rx
  exact tail_any (dict_typeIs I g) PySem.F.slot_dict_getitem.lookup (d_getItem hu I g ry fun w' s3 I3 rw' => ⟨z, H, I3, rw', q⟩) hs
abbrev rIx3 (K : PySem.W.Frag) : R2 := fun x y H Q => rIx K x y H Q ∨ rIxD x y H Q
theorem ix_any {X : Cx} (hu : X.A.units + 1 < cLine) : IxR X (rIx3 X.K) := IxR.or ix_seq (ix_dict hu)
theorem atI_rds {al be : List Addr} {H : Hp} {ds : List D} {vs : List V} {i : Int} {d : D} (r : RDs K al be H ds vs) (h : atI ds i = some d) : ∃ v, atI vs i = some v ∧ RD K al be H d v := by
  unfold atI at h ⊢
  rw [r.length]
  cases e : ixN ds.length i with
  | none => rw [e] at h; cases h
  | some j =>
    rw [e] at h
    obtain ⟨v, ev, rv⟩ := r.get (i := j) h
    exact ⟨v, ev, rv⟩
theorem op2_ix : Op2 K E oIx (rIx3 K) := fun al be H m x y v u Q s rx ry h => by
  unfold oIx at h
  split at h
  · rename_i z i
    split at h
    · rename_i hl
      split at h
      · rename_i c e
        rw [rd_str] at rx; rw [rd_int] at ry
        exact .inl (.inr (.inr ⟨z, i, c, rx, ry, hl, e, h.now s _ (rd_str.mpr rfl)⟩))
      · exact h.elim
    · exact h.elim
  · split at h
    · rename_i ds i e _
      split at h
      · rename_i d ed
        obtain ⟨a, vs, rfl, q, rv⟩ := seqOf_ok s rx e
        obtain ⟨w, ew, rw'⟩ := atI_rds rv ed
        rw [rd_int] at ry
        refine .inl (q.imp (fun q => ⟨a, vs, i, w, rfl, ry, q, ew, h.now s _ rw'⟩) fun q => .inl ⟨a, vs, i, w, rfl, ry, q, ew, h.now s _ rw'⟩)
      · exact h.elim
    · exact h.elim
    · split at h
      · rename_i d ed
        obtain ⟨a, ov, rfl, g, ro⟩ := dLook_ok s rx ry ed
        cases ov with
        | none => exact ro.elim
        | some w => exact .inr ⟨a, w, rfl, g, h.now s _ ro⟩
      · exact h.elim
section
variable {X : Cx} {a b : Expr} {ga gb : GE} {pos : Pos}
theorem de_ix (hu : X.A.units + 1 < cLine) (ha : DE X E a ga) (hb : DE X E b gb) (hs : PlainIx b := by exact fun _ _ => rfl) : DE X E (.Subscript a b pos) (gBin oIx ga gb) := peImp (pe_ix (ix_any hu) ha hb hs) (top_imp op2_ix)
end
def cutD (xs : List D) (lo hi : Option Int) : List D := (xs.drop (HT.sIx xs.length 0 lo)).take (HT.sIx xs.length xs.length hi - HT.sIx xs.length 0 lo)
theorem cut_rds {al be : List Addr} {H : Hp} {ds : List D} {vs : List V} {lo hi : Option Int} (r : RDs K al be H ds vs) : RDs K al be H (cutD ds lo hi) (cutV vs lo hi) := by
  unfold cutD cutV
  rw [r.length]
  exact (r.drop _).take _
def gPart : Option GE → Sl → Sto → Out (Option Int)
  | none, _, m => .ok none m
  | some g, en, m => (g en m).bind fun d m1 => match d with
    | .int i => .ok (some i) m1
    | _ => .bad
def gCut (g : GE) (lo hi : Option GE) : GE := fun en m => (g en m).bind fun d m1 => (gPart lo en m1).bind fun l m2 => (gPart hi en m2).bind fun u m3 => match d with
  | .tup ds => .ok (.tup (cutD ds l u)) m3
  | d => match lstOf m3 d with
    | some ds => .ok (.lst (cutD ds l u)) m3
    | none => .bad
def tO3 (K : PySem.W.Frag) (E : XK) (g : Sl → Sto → Out (Option Int)) : TO := fun σ H Q => ∃ al be m en, SS K al be H m ∧ SL K al be H σ en ∧ Post K al be H E (g en m) fun o _ H' _ => Q o H'
section
variable {X : Cx} {e : Expr} {g : GE} {lo hi : Option Expr} {gl gh : Option GE} {pos p2 : Pos}
theorem poImp {o : Option Expr} {t t' : TO} (h : PO X o t) (k : ∀ σ H Q, t' σ H Q → t σ H Q) : PO X o t' := ⟨fun pins s σ H Q I q => h.run pins s σ H Q I (k _ _ _ q)⟩
theorem do_none : PO X none (tO3 X.K E (gPart none)) := poImp po_none fun σ H Q ⟨al, be, m, en, s, l, h⟩ => h.now s
theorem do_some (he : DE X E e g) : PO X (some e) (tO3 X.K E (gPart (some g))) := poImp (po_some he) fun σ H Q ⟨al, be, m, en, s, l, h⟩ => ⟨al, be, m, en, s, l, Post.bind h fun d al1 H1 m1 c1 s1 h1 v rv => by
  split at h1
  · exact ⟨_, rd_int.mp rv, h1.now s1⟩
  · exact h1.elim⟩
theorem sl_any : SlR X (fun x lo hi H Q => rSlA X.K x lo hi H Q ∨ rSlL X.K x lo hi H Q) := SlR.or sl_tupA sl_list
theorem de_cut (he : DE X E e g) (hl : PO X lo (tO3 X.K E (gPart gl))) (hu : PO X hi (tO3 X.K E (gPart gh))) : DE X E (.Subscript e (.Slice lo hi none p2) pos) (gCut g gl gh) :=
  peImp (pe_slice sl_any he hl hu) fun σ H Q ⟨al, be, m, en, s, l, h⟩ => ⟨al, be, m, en, s, l, Post.bind h fun d al1 H1 m1 c1 s1 h1 v rv =>
    ⟨al1, be, m1, en, s1, l.chg c1, Post.bind h1 fun lo al2 H2 m2 c2 s2 h2 => ⟨al2, be, m2, en, s2, (l.chg c1).chg c2, Post.bind h2 fun hi al3 H3 m3 c3 s3 h3 => by
      have rv := c3.rd (c2.rd rv)
      split at h3
      · rename_i ds _
        obtain ⟨a, vs, rfl, q, rvs⟩ := rd_tup rv
        refine .inl ⟨a, vs, rfl, q, fun hw => ?_, fun _ p hp => h3 al3 _ (Chg.ext (ext_upd hp)) (s3.upd hp) _ (rd_newTup s3 hp (cut_rds rvs))⟩
        have ec : cutD ds lo hi = ds := by
          unfold cutD
          rw [← rvs.length, hw.1, hw.2]
          simp [rvs.length]
        rw [ec] at h3
        exact h3.now s3 _ rv
      · split at h3
        · rename_i ds e
          obtain ⟨a, vs, rfl, q, rvs⟩ := lstOf_ok s3 rv e
          exact .inr ⟨a, vs, rfl, SqL.of q, fun p hp => h3 al3 _ (Chg.ext (ext_upd hp)) (s3.upd hp) _ (rd_newLst s3 hp (cut_rds rvs))⟩
        · exact h3.elim⟩⟩⟩
end
section
variable {X : Cx} {a b : Expr} {ga gb : GE} {pos : Pos}
end
def mAppend : D → FM := fun o ds m => match o, ds with
  | .ref k, [d] => match m[k]? with
    | some (.lst xs) => if xs.length < sizeLine then .ok .non (m.set k (.lst (xs ++ [d]))) else .bad
    | _ => .bad
  | _, _ => .bad
theorem om_append : OpM K E "list" mAppend rAppend := fun al be H m o ds v vs Q s ro r h => by
  unfold mAppend at h
  split at h
  · rename_i k d
    split at h
    · rename_i xs e
      split at h
      · rename_i hl
        obtain ⟨w, rfl, rw'⟩ := r.one
        obtain ⟨a, ea, rfl⟩ := rd_ref.mp ro
        obtain ⟨b, eb, us, hv, ru⟩ := s.store e
        rw [ea] at eb; cases eb
        have c : Chg al H al (L2.upd H a (.lst (us ++ [w]))) := Chg.write ea
        exact ⟨a, us, w, rfl, rfl, hv, by rw [ru.length]; exact hl, h al _ c (s.write ea ⟨_, upd_same, (c.rds ru).append (.cons (c.rd rw') .nil)⟩) _ (rd_non.mpr rfl)⟩
      · exact h.elim
    · exact h.elim
  · exact h.elim
def mPop : D → FM := fun o ds m => match o, ds with
  | .ref k, [] => match m[k]? with
    | some (.lst xs) => match xs[xs.length - 1]? with
      | some d => .ok d (m.set k (.lst xs.dropLast))
      | none => .bad
    | _ => .bad
  | _, _ => .bad
theorem RDs.dropLast {al be : List Addr} {H : Hp} {ds : List D} {vs : List V} (r : RDs K al be H ds vs) : RDs K al be H ds.dropLast vs.dropLast := by
  rw [List.dropLast_eq_take, List.dropLast_eq_take, r.length]
  exact r.take _
theorem om_pop : OpM K E "list" mPop rPop := fun al be H m o ds v vs Q s ro r h => by
  unfold mPop at h
  split at h
  · rename_i k
    split at h
    · rename_i xs e
      split at h
      · rename_i d ed
        obtain rfl := r.nil_inv
        obtain ⟨a, ea, rfl⟩ := rd_ref.mp ro
        obtain ⟨b, eb, us, hv, ru⟩ := s.store e
        rw [ea] at eb; cases eb
        obtain ⟨w, ew, rw'⟩ := ru.get ed
        have c : Chg al H al (L2.upd H a (.lst us.dropLast)) := Chg.write ea
        exact ⟨a, us, w, rfl, rfl, hv, by rw [ru.length]; exact ew, h al _ c (s.write ea ⟨_, upd_same, c.rds ru.dropLast⟩) _ (c.rd rw')⟩
      · exact h.elim
    · exact h.elim
  · exact h.elim
def rInD (neg : Bool) : R2 := fun y x H Q => ∃ a o, x = .ref a ∧ DGet H a y o ∧ Q (.bl (if neg then !o.isSome else o.isSome)) H
theorem op_notInD {X : Cx} (hu : X.A.units + 1 < cLine) : OpR X (compareOp .NotIn) (rInD true) := fun pins s σ H y x u v Q I ry rx h => by
  obtain ⟨a, o, rfl, g, q⟩ := h
  cases rx
  exact d_notIn hu I g ry fun s3 I3 => ⟨.bl (!o.isSome), H, I3, rfl, q⟩
theorem RDo.isSome {al be : List Addr} {H : Hp} {o : Option D} {u : Option V} (r : RDo K al be H o u) : u.isSome = o.isSome := by
  cases o <;> cases u <;> first | rfl | exact r.elim
end
end L3
namespace L3
open PySem PySem.Spec L2
open PyProof.Rows hiding St

structure FnG (P : Program) (w : World) (K : PySem.W.Frag) (mg : Str → Option Value) (base : Heap) (CX : CXT) (k : Nat) (f : Addr) (fd : FuncData) (ps : List Str) (n : Nat) (F : FM) : Prop where
  num : n = ps.length
  go : ∀ {A : Around} {outer : List Env} {s : Shared} {H : Hp} {args : Args} {us : List Value} {vs : List V} {Q : VK} {E : XK}, A.guards = some [] → Room k A → Env0 P w K mg base A outer s H →
    BindsTo s fd args (ps.zip us) → Vals vs us → SpF K n F vs H Q E → codeAny (model P w) A (.call (.ref f) args) (CR CX outer P w H s Q E) s
def Walks3 (CX : CXT) (P : Program) (w : World) (K : PySem.W.Frag) (mg : Str → Option Value) (base : Heap) (k : Nat) (N : List Str) (qual : Str) (scope : Scope) (f : Addr) (body : List Stmt) (g : GS) : Prop :=
  ∀ (cdv : Value) (A : Around) (outer : List Env) (s : Shared) (H : Hp) (E : XK), Room k (A.deeper (envOfC qual scope s.heap.objs.size f cdv)) → A.guards = some [] →
    DSs (cxOf CX P w K mg base N qual scope f cdv A outer s H E) E body g
def Walks2 (CX : CXT) (P : Program) (w : World) (K : PySem.W.Frag) (mg : Str → Option Value) (base : Heap) (k : Nat) (N : List Str) (qual : Str) (scope : Scope) (f : Addr) (body : List Stmt) (g : GS) : Prop :=
  ∀ (cdv : Value) (A : Around) (outer : List Env) (s : Shared) (H : Hp) (E : XK), Room k (A.deeper (envOfC qual scope s.heap.objs.size f cdv)) →
    DSs (cxOf CX P w K mg base N qual scope f cdv A outer s H E) E body g
section
variable {CX : CXT} {P : Program} {w : World} {K : PySem.W.Frag} {mg : Str → Option Value} {base : Heap} {k : Nat} {f : Addr} {fd : FuncData} {x qual : Str} {params : Arguments} {body : List Stmt} {scope : Scope} {dvs : List V} {kws : List (Str × V)} {N ps : List Str} {F : FM} {g : GS} {ext : Nat → D → Sto → Out D}
theorem fnOk_of (T : FunD K x qual params body scope dvs kws f fd) (S : FnScope N ps scope) (hx : ExtOk ext) (walk : Walks2 CX P w K mg base k N qual scope f body g) : FnOk P w K mg base CX (k + 1) f fd ps (SpF K ps.length (runF ext N.length g)) :=
  T.ok S (fun vs H Q E ⟨al, be, m, ds, s, r, hl, _⟩ => by rw [r.length, hl]) fun cdv A outer s H vs Q E hr h => ⟨_, walk cdv A outer s H E hr, body_ok hx (fun _ _ => rfl) h⟩
theorem fnG_of (T : FunD K x qual params body scope dvs kws f fd) (S : FnScope N ps scope) (hx : ExtOk ext) (walk : Walks3 CX P w K mg base k N qual scope f body g) : FnG P w K mg base CX (k + 1) f fd ps ps.length (runF ext N.length g) := by
  obtain ⟨oc, od, dV, kV, doc, pm, an, cdv, ct, osl, rfl, lk, hcd, _, _⟩ := T.ex
  refine ⟨rfl, fun {A outer s H args us vs Q E} hG hr e0 hb r hsp => ?_⟩
  have hlen : vs.length = ps.length := by
    obtain ⟨al, be, m, ds, ss, rr, hl, _⟩ := hsp
    rw [rr.length, hl]
  have kept : ∀ b o, base.get? b = some o → s.heap.get? b = some o := fun b o e => (e0.bs b o e).1
  have inK := e0.mod.kin.keeps kept
  have par : ∀ y ∈ ps.zip us, scope.names.lookup y.1 = some .local ∨ (scope.names.lookup y.1 = some .cell ∧ ((cellsFrom (s.heap.objs.size + 1) scope.names []).lookup y.1).isSome = true) := by
    rintro ⟨z, u⟩ hy
    exact (S.par z (List.of_mem_zip hy).1).imp id fun q => ⟨q, PySem.W.cellsFrom_some _ _ _ (.inl q)⟩
  refine codeAny_call_function hr.depth (inK _ _ lk) rfl S.co S.gen rfl (PySem.W.codeRec_of inK hcd) (hb _ _ _ _ (wpAny_newFunctionEnv_cells S.kind par fun en ee s1 made => ?_))
  cases ee
  refine ⟨(e0.mod.nolimit.keeps kept).keeps made.toInCall.keep, codeAny_func ?_⟩
  have done := (walk cdv A outer s H E (hr.deeper _) hG).run [] s1 _ H _ (inv_start S hr.hd e0 hlen r made) (body_ok (K := K) hx (fun _ _ => rfl) hsp)
  refine wpAny_mono done ?_ fun e s' z => z
  intro fl s' out
  match fl, out with
  | .ret u, ⟨v, _, H', J, rv, q⟩ => exact ⟨v, H', J.os, J.bare, J.base, J.hok, rv, q⟩
  | .next, ⟨_, H', J, q⟩ => exact ⟨V.non, H', J.os, J.bare, J.base, J.hok, rfl, q⟩
  | .brk, ⟨_, _, _, q⟩ => exact q.elim
  | .cont, ⟨_, _, _, q⟩ => exact q.elim
end
structure CalG (P : Program) (w : World) (K : PySem.W.Frag) (mg : Str → Option Value) (base : Heap) (CX : CXT) (k : Nat) (x : Str) (n : Nat) (F : FM) : Prop where
  ex : ∃ (f : Addr) (fd : FuncData) (ps : List Str), FnG P w K mg base CX k f fd ps n F ∧ mg x = some (.ref f) ∧ PySem.W.keepIn K (.ref f) = true ∧ Binds K fd ps []
section
variable {X : Cx} {CX : CXT} {E : XK} {k n : Nat} {x : Str} {F : FM} {p pos : Pos} {e : Expr} {es : List Expr} {gs : GA}
theorem de_callG (G : CalG X.prog X.w X.K X.mg X.base CX k x n F) (hG : X.A.guards = some []) (hr : Room k X.A) (hx : Passes CX X E) (hg : Gl X x) (ha : DA X E (e :: es) gs) (hdb : (x == ("__debug__" : Str)) = false := by decide)
    (he : starEach (e :: es) X.env = (false, eval e X.env) :: starEach es X.env := by rfl) (hpl : (backTo pos (starEach es X.env)).any (·.1) = false := by rfl) : DE X E (.Call (.Name x p) (e :: es) [] pos) (gCall n F gs) := by
  obtain ⟨f, fd, ps, hf, hm, hk, hb⟩ := G.ex
  refine ⟨fun pins s σ H Q I h => wpAny_Call_Name_kw (ld_glob I hg hm ?_ hdb)⟩
  have h := call_imp σ H Q h
  refine PySem.W.callWith_K (h₀ := X.base) I.ok.mod.kin hk ?_ he hpl
  refine thn (ha.run pos pins s σ H _ I h) ?_
  rintro us s1 ⟨vs, H1, I1, r, q⟩
  rw [List.append_nil] at q
  have q0 := q
  obtain ⟨al, be, m, ds, ss, rr, hl, _⟩ := q0
  have hlen : (us ++ []).length = ps.length := by rw [List.append_nil, ← r.length, rr.length, hl]; exact hf.num
  refine ⟨I1.kIn, wpAny_call (codeAny_mono (hf.go hG hr I1.env0 (hb s1 us I1.kIn hlen) (by rw [List.append_nil]; exact r) q) ?_)⟩
  intro o s' z
  match o, z with
  | .error e, z => exact hx pins σ H1 s1 e s' I1 z
  | .ok (.ret u), z => exact I1.after z
  | .ok .next, z => exact z.elim
  | .ok .brk, z => exact z.elim
  | .ok .cont, z => exact z.elim
end
section
variable {P : Program} {w : World} {K : PySem.W.Frag} {mg mb : Str → Option Value} {k : Nat} {fa a : Addr} {fd : FuncData} {x : Str} {F : FM} {s₁ : Shared} {ns : List Int}
end
end L3
namespace L3
open PySem PySem.Spec L2
open PyProof.Rows hiding St

theorem bt_abs : bootBuiltins "abs" = some (.builtin "abs") := by decide +kernel
theorem bt_max : bootBuiltins "max" = some (.builtin "max") := by decide +kernel
theorem bt_min : bootBuiltins "min" = some (.builtin "min") := by decide +kernel
theorem bt_len : bootBuiltins "len" = some (.builtin "len") := by decide +kernel
theorem bt_sum : bootBuiltins "sum" = some (.builtin "sum") := by decide +kernel
theorem bt_all : bootBuiltins "all" = some (.builtin "all") := by decide +kernel
theorem bt_repr : bootBuiltins "repr" = some (.builtin "repr") := by decide +kernel
theorem bt_isinstance : bootBuiltins "isinstance" = some (.builtin "isinstance") := by decide +kernel
theorem bt_int : bootBuiltins "int" = some (.type "int") := by decide +kernel
theorem bt_bool : bootBuiltins "bool" = some (.type "bool") := by decide +kernel
theorem bt_list : bootBuiltins "list" = some (.type "list") := by decide +kernel
theorem bt_tuple : bootBuiltins "tuple" = some (.type "tuple") := by decide +kernel
mutual
def pd : D → PyData
  | .bl b => .bool b
  | .int i => .int i
  | .str x => .str x
  | .tup ds => .tuple (pds ds)
  | .lst ds => .list (pds ds)
  | .scr ns => .list (ns.map .int)
  | _ => .none
def pds : List D → List PyData
  | [] => []
  | d :: ds => pd d :: pds ds
end
mutual
def D.dp : Nat → D → Bool
  | _, .non => true
  | _, .bl _ => true
  | _, .int _ => true
  | _, .str x => PyData.strOk x
  | n + 1, .tup ds => D.dps n ds
  | n + 1, .lst ds => D.dps n ds
  | n + 1, .scr _ => true
  | _, _ => false
def D.dps : Nat → List D → Bool
  | _, [] => true
  | n, d :: ds => D.dp n d && D.dps n ds
end
theorem pds_map (ds : List D) : pds ds = ds.map pd := by
  induction ds with
  | nil => rfl
  | cons d ds ih => unfold pds; rw [ih]; rfl
theorem dps_all (n : Nat) (ds : List D) : D.dps n ds = ds.all (D.dp n) := by
  induction ds with
  | nil => rfl
  | cons d ds ih => unfold D.dps; rw [ih]; rfl
theorem canLayAll_ints : ∀ ns : List Int, PyData.canLayAll0 (ns.map PyData.int) = true
  | [] => rfl
  | n :: ns => by simp [PyData.canLayAll0, PyData.canLay0, canLayAll_ints ns]
theorem depthAll_ints : ∀ ns : List Int, PyData.depthAll (ns.map PyData.int) ≤ 1
  | [] => by simp [PyData.depthAll]
  | n :: ns => by simp [PyData.depthAll, PyData.depth]; exact depthAll_ints ns
mutual
theorem dp_lay : ∀ (n : Nat) (d : D), D.dp n d = true → (pd d).canLay0 = true ∧ (pd d).depth ≤ n + 2
  | n, .non, h => by unfold pd; exact ⟨by rw [PyData.canLay0], by rw [PyData.depth]; omega⟩
  | n, .bl b, h => by unfold pd; exact ⟨by rw [PyData.canLay0], by rw [PyData.depth]; omega⟩
  | n, .int i, h => by unfold pd; exact ⟨by rw [PyData.canLay0], by rw [PyData.depth]; omega⟩
  | n, .str x, h => by
    unfold D.dp at h
    unfold pd
    exact ⟨by rw [PyData.canLay0]; exact h, by rw [PyData.depth]; omega⟩
  | n + 1, .tup ds, h => by
    unfold D.dp at h
    unfold pd
    obtain ⟨h1, h2⟩ := dps_lay n ds h
    exact ⟨by rw [PyData.canLay0]; exact h1, by rw [PyData.depth]; omega⟩
  | n + 1, .lst ds, h => by
    unfold D.dp at h
    unfold pd
    obtain ⟨h1, h2⟩ := dps_lay n ds h
    exact ⟨by rw [PyData.canLay0]; exact h1, by rw [PyData.depth]; omega⟩
  | n + 1, .scr ns, h => by
    unfold pd
    exact ⟨by rw [PyData.canLay0]; exact canLayAll_ints ns, by rw [PyData.depth]; have := depthAll_ints ns; omega⟩
  | 0, .tup ds, h => by unfold D.dp at h; cases h
  | 0, .lst ds, h => by unfold D.dp at h; cases h
  | 0, .scr ds, h => by unfold D.dp at h; cases h
  | n, .ty _, h => by unfold D.dp at h; cases h
  | n, .cls _, h => by unfold D.dp at h; cases h
  | n, .dK _ _, h => by unfold D.dp at h; cases h
  | n, .dT _ _, h => by unfold D.dp at h; cases h
  | n, .ins _ _ _, h => by unfold D.dp at h; cases h
  | n, .exc _ _ _, h => by unfold D.dp at h; cases h
  | n, .ref _, h => by unfold D.dp at h; cases h
theorem dps_lay : ∀ (n : Nat) (ds : List D), D.dps n ds = true → PyData.canLayAll0 (pds ds) = true ∧ PyData.depthAll (pds ds) ≤ n + 2
  | n, [], _ => by unfold pds; exact ⟨by rw [PyData.canLayAll0], by rw [PyData.depthAll]; omega⟩
  | n, d :: ds, h => by
    unfold D.dps at h
    simp only [Bool.and_eq_true] at h
    obtain ⟨h1, h2⟩ := dp_lay n d h.1
    obtain ⟨h3, h4⟩ := dps_lay n ds h.2
    unfold pds
    exact ⟨by rw [PyData.canLayAll0, h1, h3]; rfl, by rw [PyData.depthAll]; omega⟩
end
section
variable {K : PySem.W.Frag} {al be : List Addr} {H : Hp}
theorem dpAll_ints : ∀ ns : List Int, DpAll K H (ns.map V.int) (ns.map PyData.int)
  | [] => .nil
  | n :: ns => .cons (.int n) (dpAll_ints ns)
mutual
theorem rd_dp : ∀ (n : Nat) (d : D) (v : V), D.dp n d = true → RD K al be H d v → Dp K H v (pd d)
  | n, .non, v, h, r => by rw [rd_non.mp r]; unfold pd; exact .non
  | n, .bl b, v, h, r => by rw [rd_bl.mp r]; unfold pd; exact .bl b
  | n, .int i, v, h, r => by rw [rd_int.mp r]; unfold pd; exact .int i
  | n, .str x, v, h, r => by rw [rd_str.mp r]; unfold pd; exact .str x
  | n + 1, .tup ds, v, h, r => by
    unfold D.dp at h
    obtain ⟨a, vs, rfl, q, rv⟩ := rd_tup r
    unfold pd; exact .tup q (rds_dp n ds vs h rv)
  | n + 1, .lst ds, v, h, r => by
    unfold D.dp at h
    obtain ⟨a, vs, rfl, q, rv⟩ := rd_lst r
    unfold pd; exact .lst (SqL.of q) (rds_dp n ds vs h rv)
  | n + 1, .scr ns, v, h, r => by
    obtain ⟨a, rfl, q⟩ := rd_scr r
    unfold pd; exact .lst q (dpAll_ints ns)
  | 0, .tup ds, v, h, r => by unfold D.dp at h; cases h
  | 0, .lst ds, v, h, r => by unfold D.dp at h; cases h
  | 0, .scr ds, v, h, r => by unfold D.dp at h; cases h
  | n, .ty _, v, h, r => by unfold D.dp at h; cases h
  | n, .cls _, v, h, r => by unfold D.dp at h; cases h
  | n, .dK _ _, v, h, r => by unfold D.dp at h; cases h
  | n, .dT _ _, v, h, r => by unfold D.dp at h; cases h
  | n, .ins _ _ _, v, h, r => by unfold D.dp at h; cases h
  | n, .exc _ _ _, v, h, r => by unfold D.dp at h; cases h
  | n, .ref _, v, h, r => by unfold D.dp at h; cases h
theorem rds_dp : ∀ (n : Nat) (ds : List D) (vs : List V), D.dps n ds = true → RDs K al be H ds vs → DpAll K H vs (pds ds)
  | n, [], vs, _, r => by rw [r.nil_inv]; unfold pds; exact .nil
  | n, d :: ds, vs, h, r => by
    unfold D.dps at h
    simp only [Bool.and_eq_true] at h
    obtain ⟨v, r', rfl, r1, r2⟩ := r.cons_inv
    unfold pds
    exact .cons (rd_dp n d v h.1 r1) (rds_dp n ds r' h.2 r2)
end
def viewL (m : Sto) : D → D
  | .ref k => match m[k]? with
    | some (.lst ds) => .lst ds
    | _ => .ref k
  | d => d
theorem viewL_dp {m : Sto} {n : Nat} {d : D} {v : V} (s : SS K al be H m) (r : RD K al be H d v) (h : D.dp n (viewL m d) = true) : Dp K H v (pd (viewL m d)) := by
  unfold viewL at h ⊢
  split at h
  · rename_i k
    split at h
    · rename_i ds e
      obtain ⟨a, ea, vs, hv, rv⟩ := s.store e
      obtain ⟨b, eb, rfl⟩ := rd_ref.mp r
      rw [ea] at eb; cases eb
      cases n with
      | zero => unfold D.dp at h; cases h
      | succ n =>
        unfold D.dp at h
        unfold pd
        exact .lst (SqL.of hv) (rds_dp n ds vs h rv)
    · unfold D.dp at h; cases n <;> cases h
  · exact rd_dp n d v h r
def oEq (neg : Bool) : D → D → Sto → Out D := fun x y m => if D.dp 60 (viewL m x) = true ∧ D.dp 60 (viewL m y) = true then .ok (.bl (if neg then !PyData.eqv (pd (viewL m x)) (pd (viewL m y)) else PyData.eqv (pd (viewL m x)) (pd (viewL m y)))) m else .bad
variable {E : XK}
theorem shaped_of {d : D} (h : D.dp 60 d = true) : SeqAt.shaped (pd d) = true := by
  obtain ⟨h1, h2⟩ := dp_lay 60 d h
  unfold SeqAt.shaped
  rw [h1, decide_eq_true (by omega)]; rfl
theorem op2_eq : Op2 K E (oEq false) (rEqD K) := fun al be H m x y v u Q s rx ry h => by
  unfold oEq at h
  split at h
  · rename_i hd
    exact ⟨_, _, viewL_dp s rx hd.1, viewL_dp s ry hd.2, shaped_of hd.1, shaped_of hd.2, h.now s _ (rd_bl.mpr rfl)⟩
  · exact h.elim
theorem op2_ne : Op2 K E (oEq true) (rNeD K) := fun al be H m x y v u Q s rx ry h => by
  unfold oEq at h
  split at h
  · rename_i hd
    exact ⟨_, _, viewL_dp s rx hd.1, viewL_dp s ry hd.2, shaped_of hd.1, shaped_of hd.2, h.now s _ (rd_bl.mpr rfl)⟩
  · exact h.elim
def flatD : D → Bool
  | .non => true
  | .bl _ => true
  | .int _ => true
  | .str _ => true
  | _ => false
def eqFlat : D → D → Bool
  | .non, .non => true
  | .bl a, .bl b => a == b
  | .bl a, .int b => (if a then 1 else 0) == b
  | .int a, .bl b => a == (if b then 1 else 0)
  | .int a, .int b => a == b
  | .str a, .str b => a == b
  | _, _ => false
theorem flat_v {x : D} {v : V} (r : RD K al be H x v) (h : flatD x = true) : flatV v = true := by
  cases x <;> first | (cases h; done) | skip
  · rw [rd_non.mp r]; rfl
  · rw [rd_bl.mp r]; rfl
  · rw [rd_int.mp r]; rfl
  · rw [rd_str.mp r]; rfl
theorem eqFlat_v {x y : D} {v u : V} (rx : RD K al be H x v) (ry : RD K al be H y u) (hx : flatD x = true) (hy : flatD y = true) : eqV u v = eqFlat y x := by
  cases x <;> first | (cases hx; done) | skip
  all_goals (cases y <;> first | (cases hy; done) | skip)
  all_goals (simp only [rd_non, rd_bl, rd_int, rd_str] at rx ry; subst rx ry; rfl)
theorem inFlat_v {x : D} {v : V} (rx : RD K al be H x v) (hx : flatD x = true) : ∀ {ds : List D} {vs : List V}, RDs K al be H ds vs → ds.all flatD = true → vs.all flatV = true ∧ inV v vs = ds.any fun y => eqFlat y x
  | [], vs, r, h => by rw [r.nil_inv]; exact ⟨rfl, rfl⟩
  | d :: ds, vs, r, h => by
    obtain ⟨u, r', rfl, r1, r2⟩ := r.cons_inv
    simp only [List.all_cons, Bool.and_eq_true] at h
    obtain ⟨h1, h2⟩ := inFlat_v rx hx r2 h.2
    refine ⟨by simp only [List.all_cons, flat_v r1 h.1, h1, Bool.and_self], ?_⟩
    unfold inV at h2 ⊢
    rw [List.any_cons, List.any_cons, h2, eqFlat_v rx r1 hx h.1]
end
section
variable {X : Cx} {E : XK} {a b : Expr} {ga gb : GE} {pos : Pos}
end
end L3
namespace L3
open PySem PySem.Spec L2
open PyProof.Rows hiding St

mutual
def D.rs : D → Nat
  | .int _ => 2000
  | .str x => 10 * x.length + 4
  | .tup ds => 4 + D.rss ds
  | .lst ds => 4 + D.rss ds
  | .scr ns => 4 + 2002 * ns.length
  | _ => 8
def D.rss : List D → Nat
  | [] => 0
  | d :: ds => D.rs d + 2 + D.rss ds
end
mutual
def D.rok : D → Bool
  | .int i => decide (i.natAbs.log2 < 1920)
  | .tup ds => D.roks ds
  | .lst ds => D.roks ds
  | .scr ns => ns.all fun i => decide (i.natAbs.log2 < 1920)
  | _ => true
def D.roks : List D → Bool
  | [] => true
  | d :: ds => D.rok d && D.roks ds
end
def lens (ts : List Str) : Nat := (ts.map (·.length)).sum
theorem textFrom_le : ∀ (ts : List Str) (k : Nat) (acc : Str), (textFrom k acc ts).length ≤ acc.length + lens ts + 2 * ts.length
  | [], k, acc => by unfold textFrom lens; simp
  | t :: ts, k, acc => by
    unfold textFrom
    have ih := textFrom_le ts (k + 1) (acc ++ (if k > 0 then ", " else "" : String) ++ t)
    have e : (acc ++ (if k > 0 then ", " else "" : String) ++ t).length = acc.length + (if k > 0 then 2 else 0) + t.length := by
      rw [strLen_append, strLen_append]
      split <;> rfl
    rw [e] at ih
    have e2 : (if k > 0 then 2 else 0) ≤ 2 := by split <;> omega
    unfold lens at ih ⊢
    simp only [List.map_cons, List.sum_cons, List.length_cons]
    generalize (if k > 0 then 2 else 0) = w at ih e2
    omega
theorem listText_le (ts : List Str) : (listText ts).length ≤ lens ts + 2 * ts.length + 2 := by
  unfold listText
  rw [strLen_append]
  have := textFrom_le ts 0 "["
  have e1 : (("[" : String) : Str).length = 1 := rfl
  have e2 : (("]" : String) : Str).length = 1 := rfl
  omega
theorem tupleText_le (ts : List Str) : (tupleText ts).length ≤ lens ts + 2 * ts.length + 3 := by
  unfold tupleText
  rw [strLen_append, strLen_append]
  have h := StrLaws.join_length_le ", " ts
  have e1 : (("(" : String) : Str).length = 1 := rfl
  have e2 : ((", " : String) : Str).length = 2 := rfl
  have e3 : (((if ts.length == 1 then ",)" else ")" : String)) : Str).length ≤ 2 := by split <;> decide
  unfold lens
  rw [e2] at h
  omega
theorem shownAll_len : ∀ ds : List PyData, (PyData.shownAll ds).length = ds.length
  | [] => by unfold PyData.shownAll; rfl
  | d :: ds => by unfold PyData.shownAll; simp [shownAll_len ds]
theorem lens_cons (t : Str) (ts : List Str) : lens (t :: ts) = t.length + lens ts := by simp [lens]
theorem shown_ints : ∀ ns : List Int, (ns.all fun i => decide (i.natAbs.log2 < 1920)) = true → PyData.showableAll (ns.map .int) = true ∧ lens (PyData.shownAll (ns.map PyData.int)) ≤ 2000 * ns.length
  | [], _ => ⟨by simp [PyData.showableAll], by unfold PyData.shownAll; simp [lens]⟩
  | n :: ns, h => by
    simp only [List.all_cons, Bool.and_eq_true, decide_eq_true_eq] at h
    obtain ⟨h1, h2⟩ := shown_ints ns h.2
    refine ⟨by simp [PyData.showableAll, PyData.showable, h.1, h1], ?_⟩
    simp only [List.map_cons]
    unfold PyData.shownAll PyData.shown
    rw [lens_cons]
    have := int_text_length_le (a := n) (k := 1920) (by omega) h.1
    have e : (Str.ofString (toString n)).length = (toString n).length := PySem.ofString_length _
    simp only [List.length_cons]
    have e2 : ((toString n : String) : Str).length ≤ 1921 := by
      show (Str.ofString (toString n)).length ≤ 1921
      omega
    omega
mutual
theorem shown_le : ∀ (n : Nat) (d : D), D.dp n d = true → D.rok d = true → (pd d).showable = true ∧ (pd d).shown.length ≤ D.rs d
  | n, .non, _, _ => by unfold pd D.rs PyData.showable PyData.shown; exact ⟨rfl, by decide⟩
  | n, .bl b, _, _ => by unfold pd D.rs PyData.showable PyData.shown; exact ⟨rfl, by cases b <;> decide⟩
  | n, .int i, _, h => by
    unfold D.rok at h
    unfold pd D.rs PyData.showable PyData.shown
    refine ⟨h, ?_⟩
    have h := of_decide_eq_true h
    have := int_text_length_le (a := i) (k := 1920) (by omega) h
    have e : (Str.ofString (toString i)).length = (toString i).length := PySem.ofString_length _
    show (Str.ofString (toString i)).length ≤ 2000
    omega
  | n, .str x, h, _ => by
    unfold D.dp at h
    unfold pd D.rs PyData.showable PyData.shown
    refine ⟨rfl, ?_⟩
    have := StrLaws.reprText_len x fun c hc => by
      unfold PyData.strOk at h
      have := Array.all_eq_true'.mp h c (by simpa using hc)
      have := of_decide_eq_true this
      omega
    omega
  | n + 1, .tup ds, h, g => by
    unfold D.dp at h
    unfold D.rok at g
    obtain ⟨h1, h2⟩ := shown_les n ds h g
    unfold pd D.rs
    refine ⟨by unfold PyData.showable; exact h1, ?_⟩
    unfold PyData.shown
    have := tupleText_le (PyData.shownAll (pds ds))
    rw [shownAll_len, pds_map, List.length_map] at this
    rw [← pds_map] at this
    omega
  | n + 1, .lst ds, h, g => by
    unfold D.dp at h
    unfold D.rok at g
    obtain ⟨h1, h2⟩ := shown_les n ds h g
    unfold pd D.rs
    refine ⟨by unfold PyData.showable; exact h1, ?_⟩
    unfold PyData.shown
    have := listText_le (PyData.shownAll (pds ds))
    rw [shownAll_len, pds_map, List.length_map] at this
    rw [← pds_map] at this
    omega
  | n + 1, .scr ns, h, g => by
    unfold D.rok at g
    obtain ⟨h1, h2⟩ := shown_ints ns g
    unfold pd D.rs
    refine ⟨by unfold PyData.showable; exact h1, ?_⟩
    unfold PyData.shown
    have := listText_le (PyData.shownAll (ns.map PyData.int))
    rw [shownAll_len, List.length_map] at this
    omega
  | 0, .tup ds, h, _ => by unfold D.dp at h; cases h
  | 0, .lst ds, h, _ => by unfold D.dp at h; cases h
  | 0, .scr ds, h, _ => by unfold D.dp at h; cases h
  | n, .ty _, h, _ => by unfold D.dp at h; cases h
  | n, .cls _, h, _ => by unfold D.dp at h; cases h
  | n, .dK _ _, h, _ => by unfold D.dp at h; cases h
  | n, .dT _ _, h, _ => by unfold D.dp at h; cases h
  | n, .ins _ _ _, h, _ => by unfold D.dp at h; cases h
  | n, .exc _ _ _, h, _ => by unfold D.dp at h; cases h
  | n, .ref _, h, _ => by unfold D.dp at h; cases h
theorem shown_les : ∀ (n : Nat) (ds : List D), D.dps n ds = true → D.roks ds = true → PyData.showableAll (pds ds) = true ∧ lens (PyData.shownAll (pds ds)) + 2 * ds.length ≤ D.rss ds
  | n, [], _, _ => by unfold pds PyData.showableAll PyData.shownAll D.rss; simp [lens]
  | n, d :: ds, h, g => by
    unfold D.dps at h
    unfold D.roks at g
    simp only [Bool.and_eq_true] at h g
    obtain ⟨h1, h2⟩ := shown_le n d h.1 g.1
    obtain ⟨h3, h4⟩ := shown_les n ds h.2 g.2
    unfold pds PyData.showableAll PyData.shownAll D.rss
    refine ⟨by rw [h1, h3]; rfl, ?_⟩
    rw [lens_cons]
    simp only [List.length_cons]
    omega
end
section
variable {X : Cx} {E : XK}
def oPow3 : D → D → Sto → Out D := fun x y m => match x, y with
  | .int i, .int j => if 0 ≤ j ∧ j ≤ 64 ∧ i.natAbs < 2 ^ 2000 then .ok (.int (i ^ j.toNat)) m else .bad
  | _, _ => .bad
def CPow3 (i j : Int) : Prop := 0 ≤ j ∧ j ≤ 64 ∧ i.natAbs < 2 ^ 2000
theorem or_pow : OpR X (binaryOp .Pow) (rI CPow3 fun i j => .int (i ^ j.toNat)) := opI fun i j _ _ _ _ _ hc q => pow_int hc.1 (by
  have h1 : Builtin.Int.intBits i ≤ 2000 := intBits_le hc.2.2
  have h2 := hc.1
  have h3 := hc.2.1
  have : (Builtin.Int.intBits i : Int) * j ≤ 2000 * 64 := Int.mul_le_mul (by omega) h3 h2 (by omega)
  omega) q
theorem op2_pow3 {K : PySem.W.Frag} : Op2 K E oPow3 (rI CPow3 fun i j => .int (i ^ j.toNat)) := fun al be H m x y v u Q s rx ry h => by
  unfold oPow3 at h
  split at h
  · split at h
    · rename_i hl
      rw [rd_int] at rx ry
      exact ⟨_, _, rx, ry, hl, h.now s _ (rd_int.mpr rfl)⟩
    · exact h.elim
  · exact h.elim
def oAddI : D → D → Sto → Out D := fun x y m => match x, y with
  | .int i, .int j => .ok (.int (i + j)) m
  | _, _ => .bad
theorem iop_add3 : OpR X (inplaceOp .Add) (rI0 fun i j => .int (i + j)) := iop_add
theorem op2_add3 {K : PySem.W.Frag} : Op2 K E oAddI (rI0 fun i j => .int (i + j)) := fun al be H m x y v u Q s rx ry h => by
  unfold oAddI at h
  split at h
  · rw [rd_int] at rx ry
    exact ⟨_, _, rx, ry, h.now s _ (rd_int.mpr rfl)⟩
  · exact h.elim

def tyName (m : Sto) : D → Option String
  | .non => some "NoneType"
  | .bl _ => some "bool"
  | .int _ => some "int"
  | .str _ => some "str"
  | .tup _ => some "tuple"
  | .lst _ => some "list"
  | .ref k => match m[k]? with
    | some (.lst _) => some "list"
    | some (.dK _) => some "dict"
    | some (.dT _) => some "dict"
    | _ => none
  | _ => none
def isiB (t c : String) : Option Bool :=
  if ["NoneType", "bool", "int", "str", "tuple", "list", "dict"].contains t && ["bool", "int", "str", "tuple", "list", "dict"].contains c then some (t == c || (t == "bool" && c == "int")) else none
theorem isiB_ok {t c : String} {r : Bool} (h : isiB t c = some r) : kitB t c = some r := by
  unfold isiB at h
  split at h
  · rename_i hc
    simp only [Bool.and_eq_true, List.contains_eq_mem, List.mem_cons, List.not_mem_nil, or_false, decide_eq_true_eq] at hc
    obtain ⟨h1, h2⟩ := hc
    cases h
    rcases h1 with rfl | rfl | rfl | rfl | rfl | rfl | rfl <;> rcases h2 with rfl | rfl | rfl | rfl | rfl | rfl <;> decide +kernel
  · cases h
theorem tyName_ok {K : PySem.W.Frag} {al be : List Addr} {H : Hp} {m : Sto} {d : D} {v : V} {t : String} (s : SS K al be H m) (r : RD K al be H d v) (h : tyName m d = some t) : TyX K H v (.type t) := by
  unfold tyName at h
  split at h
  · cases h; rw [rd_non.mp r]; exact .base .non
  · cases h; rw [rd_bl.mp r]; exact .base (.bl _)
  · cases h; rw [rd_int.mp r]; exact .base (.int _)
  · cases h; rw [rd_str.mp r]; exact .base (.str _)
  · cases h; obtain ⟨a, vs, rfl, q, _⟩ := rd_tupD r; exact .base (.tup q)
  · cases h; obtain ⟨a, vs, rfl, q, _⟩ := rd_lst r; exact .base (.lst q)
  · obtain ⟨a, ea, rfl⟩ := rd_ref.mp r
    split at h
    · rename_i e; cases h
      obtain ⟨b, eb, vs, hv, _⟩ := s.store e
      rw [ea] at eb; cases eb
      exact .base (.lst hv)
    · rename_i e; cases h
      obtain ⟨b, eb, vs, hv, _⟩ := s.store e
      rw [ea] at eb; cases eb
      exact .base (.dK hv)
    · rename_i e; cases h
      obtain ⟨b, eb, vs, hv, _⟩ := s.store e
      rw [ea] at eb; cases eb
      exact .base (.dT hv)
    · cases h
  · cases h
end
section
variable {X : Cx} {E : XK} {a b : Expr} {rest : List Expr} {ga gb : GE} {pos : Pos}
theorem de_one {op : BoolOp} (ha : DE X E a ga) : DE X E (.BoolOp op [a] pos) ga := pe_one ha
theorem de_and (ha : DE X E a ga) (hb : DE X E (.BoolOp .And (b :: rest) pos) gb) : DE X E (.BoolOp .And (a :: b :: rest) pos) (gAnd ga gb) :=
  peImp (pe_andT ha hb) fun σ H Q ⟨al, be, m, en, s, l, h⟩ => ⟨al, be, m, en, s, l, Post.bind h fun d al1 H1 m1 c1 s1 h1 v rv => by
    split at h1
    · rename_i e; exact ⟨true, truD_ok s1 rv e, al1, be, m1, en, s1, l.chg c1, h1⟩
    · rename_i e; exact ⟨false, truD_ok s1 rv e, h1.now s1 v rv⟩
    · exact h1.elim⟩
theorem de_not (ha : DE X E a ga) : DE X E (.UnaryOp .Not a pos) (gNot ga) :=
  peImp (pe_notT ha) fun σ H Q ⟨al, be, m, en, s, l, h⟩ => ⟨al, be, m, en, s, l, Post.bind h fun d al1 H1 m1 c1 s1 h1 v rv => by
    split at h1
    · rename_i b e; exact ⟨b, truD_ok s1 rv e, h1.now s1 _ (rd_bl.mpr rfl)⟩
    · exact h1.elim⟩
end
end L3
namespace L3
open PySem PySem.Spec L2
open PyProof.Rows hiding St
section
variable {P : Program} {w : World} {A : Around} {E : Value → Shared → Prop} {s : Shared}
set_option maxHeartbeats 3200000 in
theorem set_of_list {l : Addr} {items : Array Value} (ns : List Int) {Q : Value → Shared → Prop} (hh : A.handled = none) (hl : s.heap.IsList l items) (hit : IntsAre items.toList ns) (hb : ns.length + 1 < scanBound)
    (h : ∀ (h' : Heap) (tk c : Nat), SetR w h' s.heap.objs.size (fun j => decide (j ∈ ns)) c → c ≤ ns.length → (∀ b o, s.heap.get? b = some o → h'.get? b = some o) → Q (.ref s.heap.objs.size) { s with heap := h', toks := tk }) :
    wpAny (model P w) A (call (.type "set") [.ref l]) Q E s := by
  have hisz : items.size = ns.length := by
    have q := IntsAre.length hit
    rw [Array.length_toList] at q
    exact q
  obtain ⟨c, tl, hmro⟩ := F.called_set.mro
  have hmade := F.called_set.made
  have hsub := F.called_set.sub
  refine wpAny_call (codeAny_of_tree ?_)
  show wpAny _ _ (callAny (.type "set") _) _ _ _
  refine wpAny_pure ⟨Code.quiet_builtin _ (by decide +kernel), codeAny_builtin F.entry_type_call ?_⟩
  rw [Around.under_plain (weight_type_call_type "set" [.ref l] []) rfl]
  have h1 := F.called_set.notType
  have h2 := F.called_set.canCreate
  have hct := F.typeCall_set_1 (.ref l)
  repeat (any_goals (first | assumption | wp_step))

  refine codeAny_mono (code_set_led1 (.ref l) (E := E) (Q₁ := fun obj s₁ => obj = .ref s.heap.objs.size ∧ s₁ = { s with heap := s.heap.push { cls := .type "set", dict := none, data := .set #[] 0 (.fresh 0 0 (!w.params.followText "set-order")) } }) ⟨rfl, rfl⟩) fun r s₁ hr => ?_
  cases r with
  | error e => exact hr
  | ok fl =>
    cases fl with
    | ret obj =>
      obtain ⟨rfl, rfl⟩ := hr
      have hS : (s.heap.push { cls := .type "set", dict := none, data := .set #[] 0 (.fresh 0 0 (!w.params.followText "set-order")) }).get? s.heap.objs.size = some { cls := .type "set", dict := none, data := .set #[] 0 (.fresh 0 0 (!w.params.followText "set-order")) } := Heap.get?_push_size _ rfl
      have hT : Shared.TypeIs { s with heap := s.heap.push { cls := .type "set", dict := none, data := .set #[] 0 (.fresh 0 0 (!w.params.followText "set-order")) } } (.ref s.heap.objs.size) "set" := ⟨_, hS, rfl⟩
      have hli := F.called_set.init.lookup
      have hbi := F.called_set.init.bind (.ref s.heap.objs.size)
      repeat (any_goals (first | assumption | wp_step))

      refine codeAny_mono (codeAny_call_builtin (R := wants (fun r s₂ => r = .none ∧ ∃ h' tk c, s₂ = { s with heap := h', toks := tk } ∧ SetR w h' s.heap.objs.size (fun j => decide (j ∈ ns)) c ∧ c ≤ ns.length ∧
          (∀ b o, s.heap.get? b = some o → h'.get? b = some o)) E) F.called_set.init.plain F.entry_set_init (check_set_init_1 hT ?_)) fun r₂ s₂ hr₂ => ?_
      · obtain ⟨ol, hol, hcl, nl, hdl⟩ := hl
        obtain ⟨ocls, odict, odata, oslots⟩ := ol
        simp only at hcl hdl
        subst hcl; subst hdl
        have hol' : (s.heap.push { cls := .type "set", dict := none, data := .set #[] 0 (.fresh 0 0 (!w.params.followText "set-order")) }).get? l = some { cls := .type "list", dict := odict, data := .seq items nl, slots := oslots } := Heap.get?_push_of_some _ hol
        have hsls := F.sub_list_set
        have hslf := F.sub_list_frozenset
        have hne : (Value.type "list" == Value.type "dict") = false := by decide
        have hl1 : (s.heap.push { cls := .type "set", dict := none, data := .set #[] 0 (.fresh 0 0 (!w.params.followText "set-order")) }).IsList l items := ⟨_, hol', rfl, nl, rfl⟩
        unfold Builtin.«set.__init__» noKeywords Builtin.Frozenset.updateFrom
        generalize hPI : pyIter = PI
        wp_walk
        subst hPI

        refine wpAny_pyIter_list hl1 ?_
        refine wpAny_bind (wpAny_runValue ?_)
        have hlS : l < s.heap.objs.size := Heap.lt_size hol
        have hh3 : A.in1.in1.in1.handled = none := by simp [hh]
        have hz1 : (s.heap.push { cls := .type "set", dict := none, data := .set #[] 0 (.fresh 0 0 (!w.params.followText "set-order")) }).objs.size = s.heap.objs.size + 1 := Heap.size_push ..
        have hneI : l ≠ (s.heap.push { cls := .type "set", dict := none, data := .set #[] 0 (.fresh 0 0 (!w.params.followText "set-order")) }).objs.size := by
          rw [Heap.size_push]; exact Nat.ne_of_lt (Nat.lt_succ_of_lt hlS)
        have hSf : s.heap.objs.size ∉ [(s.heap.push { cls := .type "set", dict := none, data := .set #[] 0 (.fresh 0 0 (!w.params.followText "set-order")) }).objs.size, l] := by
          rw [Heap.size_push]; simp only [List.mem_cons, List.mem_singleton, List.not_mem_nil, or_false, not_or]
          exact ⟨Nat.ne_of_lt (Nat.lt_succ_self _), Nat.ne_of_gt hlS⟩
        have hval : ∀ (i : Nat) (v : Value), items[i]? = some v → ∃ k t, ns[i]? = some k ∧ v = .int k t := fun i v hv => by
          have hi : i < ns.length := by rw [← hisz]; exact (Array.getElem?_eq_some_iff.mp hv).1
          obtain ⟨t, e⟩ := PyProof.Rows.IntsAre.int_at hit i v (by rw [Array.getElem?_toList]; exact hv)
          refine ⟨ns[i], t, List.getElem?_eq_getElem hi, ?_⟩
          rw [e, List.getD_eq_getElem?_getD, List.getElem?_eq_getElem hi] <;> rfl
        refine set_update_ints ((Walks.list hh3 _ l hneI items).toS) s.heap.objs.size
          hSf ns hisz hb hval (items.size - 0) 0 _ (by omega) (Nat.zero_le _)
          ⟨⟨_, Heap.get?_push_size _ rfl, rfl, rfl⟩, (hl1.push _)⟩ ?hS0 ?hR
        case hS0 =>
          have hget : ((s.heap.push { cls := .type "set", dict := none, data := .set #[] 0 (.fresh 0 0 (!w.params.followText "set-order")) }).push { cls := .type "list_iterator", data := .fields #[.ref l, .int 0 0] }).get? s.heap.objs.size
              = some { cls := .type "set", dict := none, data := .set #[] 0 (.fresh 0 0 (!w.params.followText "set-order")) } := Heap.get?_push_of_some _ hS
          exact ⟨0, Nat.le_refl 0, setR_new_at hget⟩
        case hR =>
          intro s' c' hm hc' hS'
          obtain ⟨h', g2, d', tk', os'⟩ := s'
          have eg : g2 = s.gens := hm.gens
          have ed : d' = s.drawn := hm.drawn
          have eo : os' = s.os := hm.os
          subst eg; subst ed; subst eo
          show wpAny _ _ _ _ _ _
          refine wpAny_pure ?_
          show wpAny _ _ (ret Value.none) _ _ _
          rw [hisz] at hc'
          refine wpAny_pure ⟨rfl, h', tk', c', rfl, hS', hc', fun b o e => ?_⟩
          have hb0 : b < s.heap.objs.size := Heap.lt_size e
          have hb1 : b ≠ s.heap.objs.size := Nat.ne_of_lt hb0
          have hb2 : b ≠ (s.heap.push { cls := .type "set", dict := none, data := .set #[] 0 (.fresh 0 0 (!w.params.followText "set-order")) }).objs.size := by
            rw [Heap.size_push]; exact Nat.ne_of_lt (Nat.lt_succ_of_lt hb0)
          exact hm.heap b o (by simp only [List.mem_cons, List.mem_singleton, List.not_mem_nil, or_false, not_or]; exact ⟨hb1, hb2⟩) (Heap.get?_push_of_some _ (Heap.get?_push_of_some _ e))

      · cases r₂ with
        | error e => exact hr₂
        | ok fl₂ =>
          cases fl₂ with
          | ret r =>
            obtain ⟨rfl, h', tk, c', rfl, hS', hc', hk'⟩ := hr₂
            repeat (any_goals (first | assumption | wp_step))
            exact h _ _ _ hS' hc' hk'
          | _ => exact hr₂.elim
    | _ => exact hr.elim

end
section
variable {X : Cx} {E : XK}
def rSortedSetA (w : World) : List V → Hp → VK → Prop := fun vs H Q => ∃ (a : Addr) (S : Int → Bool) (n : Nat), vs = [V.ref a] ∧ H a = some (SetO w a S n) ∧ n ≤ sizeLine ∧
  ∀ (ns : List Int) (p : Addr), ns.Pairwise (· < ·) → (∀ k : Int, k ∈ ns ↔ S k = true) → ns.length = n → H p = none → Q (.ref p) (upd H p (.lst (ns.map V.int)))
end
end L3
namespace L3
open PySem PySem.Spec L2
open PyProof.Rows hiding St

section
variable {K : PySem.W.Frag} {al be : List Addr} {H : Hp} {m : Sto}
end
def gDnewK : GE := fun _ m => .ok (.ref m.length) (m ++ [.dK []])
def gPairs : List (GE × GE) → Sl → Sto → Out (List (D × D))
  | [], _, m => .ok [] m
  | (k, v) :: r, en, m => (k en m).bind fun x m1 => (v en m1).bind fun y m2 => (gPairs r en m2).bind fun ps m3 => .ok ((x, y) :: ps) m3
def keyPairs : List (D × D) → Option (List (Key × D))
  | [] => some []
  | (x, y) :: r => match keyD x, keyPairs r with
    | some k, some ps => some ((k, y) :: ps)
    | _, _ => none
def mergeA (kvs more : List (Key × D)) : List (Key × D) := more.foldl (fun acc kv => putA acc kv.1 kv.2) kvs
def gDisp (ps : List (GE × GE)) : GE := fun en m => (gPairs ps en (m ++ [.dK []])).bind fun qs m1 => match keyPairs qs with
  | some kvs => if kvs.length ≤ 15 ∧ m1.length > m.length then (match m1[m.length]? with
    | some (.dK []) => .ok (.ref m.length) (m1.set m.length (.dK (mergeA [] kvs)))
    | _ => .bad) else .bad
  | none => .bad
section
variable {X : Cx} {E : XK} {pos : Pos}
end
def isDct (m : Sto) : D → Bool
  | .dK _ _ => true
  | .dT _ _ => true
  | .ref k => match m[k]? with
    | some (.dK _) => true
    | some (.dT _) => true
    | _ => false
  | _ => false
def gDget1 (o k : GE) : GE := fun en m => (o en m).bind fun d m1 => if isDct m1 d = true then (k en m1).bind fun x m2 => match dLook m2 d x with
  | some (some y) => .ok y m2
  | some none => .ok .non m2
  | none => .bad else .bad
section
variable {X : Cx} {E : XK} {o e f : Expr} {go ge gf : GE} {apos cpos : Pos}
end
def oEqS (neg : Bool) : D → D → Sto → Out D := fun x y m => match x, y with
  | .str a, .str b => .ok (.bl (if neg then !(a == b) else a == b)) m
  | _, _ => .bad
section
variable {K : PySem.W.Frag} {E : XK}
theorem op2_eqS : Op2 K E (oEqS false) rEq := fun al be H m x y v u Q s rx ry h => by
  unfold oEqS at h
  split at h
  · rename_i a b
    rw [rd_str] at rx ry
    subst rx ry
    refine ⟨rfl, ?_⟩
    have := h.now s (.bl (a == b)) (rd_bl.mpr rfl)
    rw [dec_str]; exact this
  · exact h.elim
end
section
variable {prog : Program} {w : World} {A : Around} {E : Value → Shared → Prop} {s : Shared} {l : Addr} {its : List Value} {ns : List Int} {Q : Value → Shared → Prop}
theorem sum_tupI (hh : A.handled = none) (hl : s.heap.IsTuple l its.toArray) (hi : IntsAre its ns)
    (h : ∀ h' tk t', (∀ b o, s.heap.get? b = some o → h'.get? b = some o) → Q (.int ns.sum t') { s with heap := h', toks := tk }) : wpAny (model prog w) A (call (.builtin "sum") [.ref l]) Q E s := by
  obtain ⟨xs, e⟩ := hi.allInts.items
  have hn : numsOf (intItems xs).toList = ns := by rw [← e]; exact hi.numsOf
  rw [nums_intItems] at hn
  rw [e] at hl
  refine PySem.W.ktm_sumG hh hl fun h' tk t' hk => ?_
  have := h h' tk t' hk
  rw [preSum_eq, List.take_of_length_le (by simp), hn]; exact this
end
def SqA (K : PySem.W.Frag) (H : Hp) (a : Addr) (vs : List V) : Prop := SqL K H a vs ∨ SqT K H a vs
def rSumS (K : PySem.W.Frag) : List V → Hp → VK → Prop := fun vs H Q => ∃ (a : Addr) (ns : List Int), vs = [V.ref a] ∧ SqA K H a (ns.map V.int) ∧ Q (.int ns.sum) H
section
variable {X : Cx} {E : XK}
theorem cr_sumS (hc : X.calm = true) : CallR X (.builtin "sum") (rSumS X.K) := by
  intro pins s σ H vs us Q I r h
  obtain ⟨a, ns, rfl, hs, q⟩ := h
  rw [Vals.ref1 r]
  rcases hs with hs | hs
  · obtain ⟨its, rv, hl, _⟩ := I.list hs
    exact sum_raw (I.ok.hd hc) hl.isList rv.ints fun h' tk t' hk => ⟨.int _, H, I.kept hk, ⟨_, rfl⟩, q⟩
  · obtain ⟨its, rv, hl, _⟩ := I.tuple hs
    exact sum_tupI (I.ok.hd hc) hl rv.ints fun h' tk t' hk => ⟨.int _, H, I.kept hk, ⟨_, rfl⟩, q⟩
end
def seqInts (m : Sto) (d : D) : Option (List Int) := match d with
  | .scr ns => some ns
  | d => (seqOf m d).bind intsOf
theorem seqInts_ok {K : PySem.W.Frag} {al be : List Addr} {H : Hp} {m : Sto} {d : D} {v : V} {ns : List Int} (s : SS K al be H m) (r : RD K al be H d v) (h : seqInts m d = some ns) : ∃ a, v = .ref a ∧ SqA K H a (ns.map V.int) := by
  unfold seqInts at h
  split at h
  · cases h
    obtain ⟨a, e, q⟩ := rd_scr r
    exact ⟨a, e, .inl q⟩
  · cases e1 : seqOf m d with
    | none => rw [e1] at h; cases h
    | some es =>
      rw [e1] at h
      obtain ⟨a, us, rfl, q, ru⟩ := seqOf_ok s r e1
      rw [intsOf_ok h] at ru
      rw [ru.ints_inv] at q
      exact ⟨a, rfl, q⟩
def bSumS : FM := fun ds m => match ds with
  | [d] => match seqInts m d with
    | some ns => .ok (.int ns.sum) m
    | none => .bad
  | _ => .bad
section
variable {K : PySem.W.Frag} {E : XK}
theorem on_sumS : OpN K E bSumS (rSumS K) := fun al be H m ds vs Q s r h => by
  unfold bSumS at h
  split at h
  · split at h
    · rename_i ns e
      obtain ⟨v, rfl, rv⟩ := r.one
      obtain ⟨a, rfl, q⟩ := seqInts_ok s rv e
      exact ⟨a, ns, rfl, q, h.now s _ (rd_int.mpr rfl)⟩
    · exact h.elim
  · exact h.elim
end
def ins1 (a : Int) : List Int → List Int
  | [] => [a]
  | b :: l => if a ≤ b then a :: b :: l else b :: ins1 a l
def srt : List Int → List Int
  | [] => []
  | a :: l => ins1 a (srt l)
theorem ins1_perm (a : Int) : ∀ l, (ins1 a l).Perm (a :: l)
  | [] => .refl _
  | b :: l => by
    unfold ins1
    split
    · exact .refl _
    · exact ((ins1_perm a l).cons b).trans (.swap a b l)
theorem srt_perm : ∀ l, (srt l).Perm l
  | [] => .refl _
  | a :: l => (ins1_perm a _).trans ((srt_perm l).cons a)
theorem ins1_sorted (a : Int) : ∀ l : List Int, l.Pairwise (· ≤ ·) → (ins1 a l).Pairwise (· ≤ ·)
  | [], _ => by simp [ins1]
  | b :: l, h => by
    unfold ins1
    split
    · rename_i hab
      refine List.pairwise_cons.mpr ⟨fun y hy => ?_, h⟩
      rcases List.mem_cons.mp hy with rfl | hy
      · exact hab
      · exact Int.le_trans hab ((List.pairwise_cons.mp h).1 y hy)
    · rename_i hab
      refine List.pairwise_cons.mpr ⟨fun y hy => ?_, ins1_sorted a l (List.pairwise_cons.mp h).2⟩
      rcases List.mem_cons.mp ((ins1_perm a l).mem_iff.mp hy) with rfl | hy
      · omega
      · exact (List.pairwise_cons.mp h).1 y hy
theorem srt_sorted : ∀ l : List Int, (srt l).Pairwise (· ≤ ·)
  | [] => .nil
  | a :: l => ins1_sorted a _ (srt_sorted l)
theorem sorted_uniq {R : Int → Int → Prop} (asym : ∀ a b, R a b → R b a → a = b) {l₁ l₂ : List Int} (p : l₁.Perm l₂) (h1 : l₁.Pairwise R) (h2 : l₂.Pairwise R) : l₁ = l₂ := by
  induction l₁ generalizing l₂ with
  | nil => exact p.nil_eq.symm ▸ rfl
  | cons a l ih =>
    cases l₂ with
    | nil => exact absurd p.length_eq (by simp)
    | cons b r =>
      have hab : a = b := by
        have ha : a ∈ b :: r := p.mem_iff.mp List.mem_cons_self
        have hb : b ∈ a :: l := p.mem_iff.mpr List.mem_cons_self
        rcases List.mem_cons.mp ha with e | ha
        · exact e
        · rcases List.mem_cons.mp hb with e | hb
          · exact e.symm
          · exact asym _ _ ((List.pairwise_cons.mp h1).1 b hb) ((List.pairwise_cons.mp h2).1 a ha)
      subst hab
      rw [ih (List.Perm.cons_inv p) (List.pairwise_cons.mp h1).2 (List.pairwise_cons.mp h2).2]
def dedup : List Int → List Int
  | [] => []
  | a :: l => if a ∈ l then dedup l else a :: dedup l
theorem dedup_mem {x : Int} : ∀ l, x ∈ dedup l ↔ x ∈ l
  | [] => Iff.rfl
  | a :: l => by
    unfold dedup
    split
    · rename_i h
      rw [dedup_mem l, List.mem_cons]
      exact ⟨.inr, fun q => q.elim (fun e => e ▸ h) id⟩
    · rw [List.mem_cons, List.mem_cons, dedup_mem l]
theorem dedup_nodup : ∀ l, (dedup l).Nodup
  | [] => List.nodup_nil
  | a :: l => by
    unfold dedup
    split
    · exact dedup_nodup l
    · rename_i h
      exact List.nodup_cons.mpr ⟨fun q => h ((dedup_mem l).mp q), dedup_nodup l⟩
def sset (l : List Int) : List Int := srt (dedup l)
theorem sset_mem {x : Int} {l : List Int} : x ∈ sset l ↔ x ∈ l := ((srt_perm _).mem_iff).trans (dedup_mem l)
theorem sset_lt (l : List Int) : (sset l).Pairwise (· < ·) := lt_of_le_nodup _ (srt_sorted _) ((srt_perm _).nodup_iff.mpr (dedup_nodup l))
theorem sset_uniq {ns l : List Int} (h : ns.Pairwise (· < ·)) (hm : ∀ k, k ∈ ns ↔ k ∈ l) : ns = sset l := by
  have h2 := sset_lt l
  have nd : ∀ {l : List Int}, l.Pairwise (· < ·) → l.Nodup := fun h => h.imp fun q => Int.ne_of_lt q
  refine sorted_uniq (R := fun a b => a < b) (fun a b p q => absurd p (by omega)) ?_ h h2
  refine (List.perm_ext_iff_of_nodup (nd h) (nd h2)).mpr fun k => ?_
  rw [hm k, sset_mem]
def bSortedSet : FM := fun ds m => match ds with
  | [d] => match lstInts m d with
    | some ns => if ns.length + 1 < scanBound then .ok (.lst ((sset ns).map D.int)) m else .bad
    | none => .bad
  | _ => .bad
section
variable {X : Cx} {E : XK} {a : Expr} {ga : GE} {p p2 q pos : Pos}
end
section
variable {X : Cx} {E : XK} {a b : Expr} {gs : GA} {p pos tpos : Pos} {elts : List Expr} {kk : Nat}
end
end L3
namespace L3
open PySem PySem.Spec L2
open PyProof.Rows hiding St
def keepB (n : Nat) : Option D → Option D
  | some d => if D.bel n d = true then some d else none
  | none => none
def sTrim (g : GS) : GS := fun en m => match g en m with
  | .nx en' m' => if (m'.take m.length).all (MO.bel m.length) = true then .nx (en'.map (keepB m.length)) (m'.take m.length) else .bad
  | .ct en' m' => if (m'.take m.length).all (MO.bel m.length) = true then .ct (en'.map (keepB m.length)) (m'.take m.length) else .bad
  | o => o
section
variable {K : PySem.W.Frag} {al al' be : List Addr} {H H' : Hp} {m m' : Sto} {σ : St} {en : Sl}
theorem SL.keepB {n : Nat} (l : SL K al be H σ en) : SL K (al.take n) be H σ (en.map (L3.keepB n)) := by
  refine ⟨by rw [List.length_map]; exact l.len, fun i d e => ?_⟩
  rw [List.getElem?_map] at e
  cases h : en[i]? with
  | none => rw [h] at e; cases e
  | some o =>
    rw [h] at e
    cases o with
    | none => cases e
    | some d' =>
      have e : (if D.bel n d' = true then some d' else none) = some d := Option.some.inj e
      by_cases hb : D.bel n d' = true
      · rw [if_pos hb] at e
        cases e
        obtain ⟨v, e1, r⟩ := l.get i d h
        exact ⟨v, e1, r.bel (fun _ _ => take_fz) (fun _ _ hk h => take_ix hk h) hb⟩
      · rw [if_neg hb] at e
        cases e
theorem trim_ok (s : SS K al be H m) (c : Chg al H al' H') (s' : SS K al' be H' m') (l' : SL K al' be H' σ en) (hb : (m'.take m.length).all (MO.bel m.length) = true) :
    Chg al H al H' ∧ SS K al be H' (m'.take m.length) ∧ SL K al be H' σ (en.map (L3.keepB m.length)) := by
  have et : al'.take m.length = al := by
    obtain ⟨more, rfl⟩ := c.pre
    rw [← s.len]; simp
  have s2 := s'.take hb
  have l2 := l'.keepB (n := m.length)
  rw [et] at s2 l2
  exact ⟨⟨⟨[], by simp⟩, c.keep, fun a q n => absurd q n⟩, s2, l2⟩
end
theorem dss_trim {X : Cx} {E : XK} {sts : List Stmt} {g : GS} (h : DSs X E sts g) : DSs X E sts (sTrim g) := pssImp h fun D σ H ⟨al, be, m, en, s, l, h⟩ => by
  refine ⟨al, be, m, en, s, l, ?_⟩
  unfold sTrim at h
  cases e : g en m with
  | nx en' m' =>
    rw [e] at h
    simp only at h
    split at h
    · rename_i hb
      intro al' H' σ' c s' l'
      obtain ⟨c2, s2, l2⟩ := trim_ok s c s' l' hb
      exact h al H' σ' c2 s2 l2
    · exact h.elim
  | ct en' m' =>
    rw [e] at h
    simp only at h
    split at h
    · rename_i hb
      intro al' H' σ' c s' l'
      obtain ⟨c2, s2, l2⟩ := trim_ok s c s' l' hb
      exact h al H' σ' c2 s2 l2
    · exact h.elim
  | bk en' m' => rw [e] at h; exact h
  | rt en' m' => rw [e] at h; exact h
  | ex en' m' => rw [e] at h; exact h
  | bad => rw [e] at h; exact h.elim
end L3
namespace L3
open PySem PySem.Spec L2
open PyProof.Rows hiding St
section
variable {prog : Program} {w : World} {A : Around} {E : Value → Shared → Prop} {s : Shared}
end
section
variable {X : Cx} {E : XK} {a : Expr} {gs : GA} {p pos tpos : Pos} {elts : List Expr} {kk : Nat}
end
end L3
namespace L3
open PySem PySem.Spec L2
open PyProof.Rows hiding St
section
variable {X : Cx} {E : XK} {tg tg1 elt iter iter1 : Expr} {ifs ifs1 : List Expr} {scope : Scope} {pos : Pos} {gi gi1 : GI} {t t1 : GT} {c c1 : GB} {g : GE}
end
end L3
namespace L3
open PySem PySem.Spec L2
open PyProof.Rows hiding St
section
variable {X : Cx} {E : XK}
end
end L3
namespace L3
open PySem PyProof.Rows Srt SrtO
section
variable {prog : Program} {w : World} {A : Around} {E : Value → Shared → Prop} {s : Shared}
end
end L3
namespace L3
open PySem PySem.Spec L2
open PyProof.Rows hiding St
section
variable {X : Cx} {E : XK}
end
end L3
namespace L3
open PySem PyProof.Rows Srt SrtO
section
variable {prog : Program} {w : World} {A : Around} {E : Value → Shared → Prop} {s : Shared}
end
end L3
namespace L3
open PySem PySem.Spec L2
open PyProof.Rows hiding St
def insT (a : List Int) : List (List Int) → List (List Int)
  | [] => [a]
  | b :: l => if HT.lexLt b a = true then b :: insT a l else a :: b :: l
def srtT : List (List Int) → List (List Int)
  | [] => []
  | a :: l => insT a (srtT l)
def dedupT : List (List Int) → List (List Int)
  | [] => []
  | a :: l => if a ∈ l then dedupT l else a :: dedupT l
def ssetT (l : List (List Int)) : List (List Int) := srtT (dedupT l)
section
variable {P : Program} {w : World} {A : Around} {E : Value → Shared → Prop} {s : Shared}
end
section
variable {X : Cx}
end
end L3
namespace L3
open PySem PySem.Spec L2
open PyProof.Rows hiding St
def tupD (ns : List Int) : D := .tup (ns.map .int)
def tupInts : D → Option (List Int)
  | .tup ds => intsOf ds
  | _ => none
def tupsInts : List D → Option (List (List Int)) := allO tupInts
def bSortedSetX : FM := fun ds m => match ds with
  | [d] => match lstInts m d with
    | some ns => if ns.length + 1 < scanBound then .ok (.lst ((sset ns).map D.int)) m else .bad
    | none => match (lstOf m d).bind tupsInts with
      | some nss => if nss.length < 64 ∧ [] ∉ nss then .ok (.lst ((ssetT nss).map tupD)) m else .bad
      | none => .bad
  | _ => .bad
section
variable {X : Cx} {E : XK} {a : Expr} {ga : GE} {p p2 q pos : Pos}
end
section
variable {X : Cx}
end
end L3
namespace L3
open PySem PySem.Spec L2
open PyProof.Rows hiding St
section
variable {prog : Program} {w : World} {A : Around} {R : Result → Shared → Prop} {s : Shared} {elt t0 i0 t1 i1 : Expr} {ifs0 ifs1 : List Expr} {scope : Scope} {pos : Pos} {it acc : Value} {env : Env}
end

section
variable {X : Cx}
end
end L3
namespace L3
open PySem PySem.Spec L2
open PyProof.Rows hiding St
def srtEnd (ds : List D) (m : Sto) : Out D := match intsOf ds with
  | some ns => if ns.length + 1 < scanBound then .ok (.lst ((sset ns).map D.int)) m else .bad
  | none => .bad
def SetQ (K : PySem.W.Frag) (w : World) (Q : VK) : VK := fun x H => rSortedSetA w [x] H Q
structure SetIs (w : World) (D : Addr) (H : Hp) (acc : List L3.D) (cnt : Nat) : Prop where
  ex : ∃ ns : List Int, acc = ns.map .int ∧ cnt ≤ ns.length ∧ H D = some (SetO w D (fun j => decide (j ∈ ns)) cnt)
theorem SetIs.zero {w : World} {D : Addr} {H : Hp} : SetIs w D (upd H D (SetO w D (fun _ => false) 0)) [] 0 := ⟨[], rfl, Nat.le_refl _, by
  rw [upd_same]
  have : (fun _ : Int => false) = fun j => decide (j ∈ ([] : List Int)) := by funext j; simp
  rw [this]⟩
theorem SetIs.keep {w : World} {D : Addr} {al al' : List Addr} {H H' : Hp} {acc : List L3.D} {cnt : Nat} (h : SetIs w D H acc cnt) (c : Chg al H al' H') (n : D ∉ al) : SetIs w D H' acc cnt := by
  obtain ⟨ns, e1, e2, e3⟩ := h.ex
  exact ⟨ns, e1, e2, c.keep D _ e3 n⟩
def Pre (o : Out (List D)) (acc : List D) : Prop := (∀ r m, o = .ok r m → ∃ more, r = acc ++ more) ∧ ∀ x m, o ≠ .ex x m
theorem Pre.bind {o : Out (List D)} {acc : List D} {f : List D → Sto → Out (List D)} (h : Pre o acc) (hf : ∀ r m, Pre (f r m) r) : Pre (o.bind f) acc := by
  cases o with
  | ok r m =>
    obtain ⟨more, rfl⟩ := h.1 r m rfl
    obtain ⟨h1, h2⟩ := hf (acc ++ more) m
    refine ⟨fun r m e => ?_, h2⟩
    obtain ⟨more', rfl⟩ := h1 r m e
    exact ⟨more ++ more', by rw [List.append_assoc]⟩
  | ex x m => exact absurd rfl (h.2 x m)
  | bad => exact ⟨fun r m e => (by cases e), fun x m e => (by cases e)⟩
theorem Pre.nox {β : Type} {o : Out β} {acc : List D} {f : β → Sto → Out (List D)} (hf : ∀ r m, Pre (f r m) acc) : Pre (o.nox.bind f) acc := by
  cases o with
  | ok r m => exact hf r m
  | ex x m => exact ⟨fun r m e => (by cases e), fun x m e => (by cases e)⟩
  | bad => exact ⟨fun r m e => (by cases e), fun x m e => (by cases e)⟩
theorem Pre.bad {acc : List D} : Pre .bad acc := ⟨fun r m e => (by cases e), fun x m e => (by cases e)⟩
theorem Pre.drop {o : Out (List D)} {acc : List D} {y : D} (h : Pre o (acc ++ [y])) : Pre o acc := ⟨fun r m e => by
  obtain ⟨more, rfl⟩ := h.1 r m e
  exact ⟨[y] ++ more, by rw [List.append_assoc]⟩, h.2⟩
theorem intsOf_app : ∀ {as bs : List D} {ns : List Int}, intsOf (as ++ bs) = some ns → ∃ n1 n2, as = n1.map .int ∧ bs = n2.map .int ∧ ns = n1 ++ n2 := fun {as bs ns} h => by
  have e := intsOf_ok h
  refine ⟨ns.take as.length, ns.drop as.length, ?_, ?_, (List.take_append_drop _ _).symm⟩
  · rw [List.map_take, ← e]; simp
  · rw [List.map_drop, ← e]; simp
theorem SetIs.more {w : World} {D : Addr} {H : Hp} {acc : List L3.D} {cnt : Nat} {y : L3.D} {K : PySem.W.Frag} {al be : List Addr} {H1 : Hp} {E : XK} {o : Out (List L3.D)} {R : L3.D → List Addr → Hp → Sto → Prop} (h : SetIs w D H acc cnt)
    (hp : Post K al be H1 E (o.bind fun ds m2 => srtEnd ds m2) R) (pre : Pre o (acc ++ [y])) :
    ∃ k, y = .int k ∧ (∃ S, H D = some (SetO w D S cnt) ∧ SetIs w D (upd H D (SetO w D (fun j => S j || decide (j = k)) (if S k = true then cnt else cnt + 1))) (acc ++ [.int k]) (if S k = true then cnt else cnt + 1)) ∧ cnt + 1 < scanBound := by
  obtain ⟨ns, e1, e2, e3⟩ := h.ex
  cases o with
  | ex x m => exact absurd rfl (pre.2 x m)
  | bad => exact hp.elim
  | ok r m =>
    obtain ⟨more, rfl⟩ := pre.1 r m rfl
    simp only [Out.bind_ok] at hp
    unfold srtEnd at hp
    split at hp
    · rename_i all e
      split at hp
      · rename_i hb
        obtain ⟨n1, n2, q1, _, q3⟩ := intsOf_app e
        obtain ⟨k, hk⟩ : ∃ k, y = .int k := by
          have : y ∈ n1.map L3.D.int := by rw [← q1]; simp
          obtain ⟨k, _, e⟩ := List.mem_map.mp this
          exact ⟨k, e.symm⟩
        have hl : acc.length + 1 = n1.length := by
          have := congrArg List.length q1
          simpa using this
        have hl2 : acc.length = ns.length := by rw [e1]; simp
        refine ⟨k, hk, ⟨_, e3, ⟨ns ++ [k], by rw [e1, List.map_append]; rfl, ?_, ?_⟩⟩, ?_⟩
        · rw [List.length_append, List.length_singleton]
          split <;> omega
        · rw [upd_same]
          have : (fun j => decide (j ∈ ns) || decide (j = k)) = fun j => decide (j ∈ ns ++ [k]) := by funext j; simp
          rw [this]
        · rw [q3, List.length_append] at hb; omega
      · exact hp.elim
    · exact hp.elim
theorem SetIs.fin {X : Cx} {E : XK} {D : Addr} {al1 al' be : List Addr} {H1 H' : Hp} {m' : Sto} {acc : List L3.D} {cnt : Nat} {Q : VK} (h : SetIs X.w D H' acc cnt) (c' : Chg al1 H1 al' H') (s' : SS X.K al' be H' m')
    (hp : Post X.K al1 be H1 E (srtEnd acc m') fun d al' H' _ => ∀ v, RD X.K al' be H' d v → Q v H') : SetQ X.K X.w Q (.ref D) H' := by
  obtain ⟨ns, rfl, e2, e3⟩ := h.ex
  unfold srtEnd at hp
  rw [intsOf_map] at hp
  simp only at hp
  split at hp
  · rename_i hb
    refine ⟨D, _, _, rfl, e3, Nat.le_trans e2 (by rw [sizeLine_eq]; unfold scanBound at hb; omega), fun ns' p hs hm hl hn => ?_⟩
    have e : ns' = sset ns := sset_uniq hs fun k => by rw [hm k]; simp
    subst e
    exact hp al' _ (c'.trans (Chg.ext (ext_upd hn))) (s'.upd hn) _ (rd_newLst s' hn RDs.ints)
  · exact hp.elim
section
variable {X : Cx} {E : XK} {tg tg1 elt iter iter1 : Expr} {ifs ifs1 : List Expr} {scope : Scope} {pos p qos : Pos} {gi gi1 : GI} {t t1 : GT} {c c1 : GB} {g : GE}
end
end L3
namespace L3
open PySem PySem.Spec L2
open PyProof.Rows hiding St
def ord {α : Type} (z : α) (pm : List Nat) (l : List α) : List α := pm.map fun i => l.getD i z
theorem vals_getD {vs : List V} {us : List Value} (r : Vals vs us) : ∀ i : Nat, RelV (vs.getD i .non) (us.getD i .none) := by
  induction r with
  | nil => intro i; exact rfl
  | cons r _ ih =>
    intro i
    cases i with
    | zero => exact r
    | succ i => exact ih i
theorem vals_ord {vs : List V} {us : List Value} (r : Vals vs us) : ∀ pm : List Nat, Vals (ord .non pm vs) (ord .none pm us)
  | [] => .nil
  | i :: pm => .cons (vals_getD r i) (vals_ord r pm)
theorem vals_app {vs zs : List V} {us ws : List Value} (r : Vals vs us) (q : Vals zs ws) : Vals (vs ++ zs) (us ++ ws) := by
  induction r with
  | nil => exact q
  | cons r _ ih => exact .cons r ih
theorem rds_getD {K : PySem.W.Frag} {al be : List Addr} {H : Hp} : ∀ {ds : List D} {vs : List V}, RDs K al be H ds vs → ∀ i : Nat, RD K al be H (ds.getD i .non) (vs.getD i .non)
  | [], vs, h, i => by rw [h.nil_inv]; exact rd_non.mpr rfl
  | d :: ds, vs, h, i => by
    obtain ⟨v, r, rfl, h1, h2⟩ := h.cons_inv
    cases i with
    | zero => exact h1
    | succ i => exact rds_getD h2 i
theorem rds_ord {K : PySem.W.Frag} {al be : List Addr} {H : Hp} {ds : List D} {vs : List V} (r : RDs K al be H ds vs) : ∀ pm : List Nat, RDs K al be H (ord .non pm ds) (ord .non pm vs)
  | [] => RDs.nil
  | i :: pm => RDs.cons (rds_getD r i) (rds_ord r pm)
structure CalK (P : Program) (w : World) (K : PySem.W.Frag) (mg : Str → Option Value) (base : Heap) (CX : CXT) (k : Nat) (x : Str) (n : Nat) (ks : List Str) (pm : List Nat) (F : FM) : Prop where
  ex : ∃ (f : Addr) (fd : FuncData) (ps : List Str), FnOk P w K mg base CX k f fd ps (SpF K pm.length F) ∧ mg x = some (.ref f) ∧ PySem.W.keepIn K (.ref f) = true ∧
    ∀ (s : Shared) (us ws : List Value), K.In s.heap → us.length = n → ws.length = ks.length → BindsTo s fd ⟨us, ks.zip ws⟩ (ps.zip (ord .none pm (us ++ ws)))
section
variable {X : Cx} {E : XK} {CX : CXT} {k n : Nat} {x : Str} {ks : List Str} {pm : List Nat} {F : FM} {p pos kpos : Pos} {e : Expr} {es : List Expr} {kws : List Keyword} {gs gk : GA} {g : GE} {nm : Option Str}
abbrev DK (X : Cx) (E : XK) (kws : List Keyword) (g : GA) : Prop := PK X kws (tGs X.K E g)
theorem pkImp {t t' : TA} (h : PK X kws t) (k : ∀ σ H Q, t' σ H Q → t σ H Q) : PK X kws t' := ⟨fun pos pins s σ H Q I q => h.run pos pins s σ H Q I (k _ _ _ q)⟩
theorem dk_nil : DK X E [] aNil := pkImp pk_nil fun σ H Q ⟨al, be, m, en, s, l, h⟩ => h.now s _ RDs.nil
theorem dk_cons (ha : DE X E e g) (hr : DK X E kws gs) : DK X E (⟨nm, e, kpos⟩ :: kws) (aCons g gs) :=
  pkImp (pk_cons ha hr) fun σ H Q ⟨al, be, m, en, s, l, h⟩ =>
    ⟨al, be, m, en, s, l, Post.bind h fun d al1 H1 m1 c1 s1 h1 v rv => ⟨al1, be, m1, en, s1, l.chg c1, Post.bind h1 fun ds al2 H2 m2 c2 s2 h2 vs rvs => h2.now s2 _ (RDs.cons (c2.rd rv) rvs)⟩⟩
end
theorem FunD.bindsK {K : PySem.W.Frag} {x qual : Str} {params : Arguments} {body : List Stmt} {scope : Scope} {kws : List (Str × V)} {f : Addr} {fd : FuncData} {ps : List Str} {n : Nat} {pm : List Nat} (F : FunD K x qual params body scope [] kws f fd) (ks : List Str)
    (h : ∀ (kV doc pm' : Value) (an : Option Addr) (cdv ct : Value) (us ws : List Value), us.length = n → ws.length = ks.length → bindArgs (PySem.W.fnOf x qual params body scope .none kV doc pm' an cdv ct) ⟨us, ks.zip ws⟩ = pure (ps.zip (ord .none pm (us ++ ws)))) (s : Shared) (us ws : List Value) (h1 : us.length = n) (h2 : ws.length = ks.length) : BindsTo s fd ⟨us, ks.zip ws⟩ (ps.zip (ord .none pm (us ++ ws))) := by
  obtain ⟨oc, od, dV, kV, doc, pm', an, cdv, ct, osl, rfl, lk, hcd, hD, hK⟩ := F.ex
  rcases hD with ⟨_, rfl⟩ | ⟨e, _⟩
  · exact .of_eq (h kV doc pm' an cdv ct us ws h1 h2)
  · exact absurd rfl e
end L3
namespace L3
open PySem PySem.Spec L2
open PyProof.Rows hiding St
def NotFd : HO → Prop
  | .frz _ (.dK _) => False
  | .frz _ (.dT _) => False
  | _ => True
section
variable {K : PySem.W.Frag} {al al' be be' : List Addr} {H H' : Hp}
mutual
theorem RD.mono2 (h1 : ∀ a u, NotFd u → Fz al be H a u → Fz al' be' H' a u) (h2 : ∀ (k : Nat) (a : Addr), al[k]? = some a → al'[k]? = some a) : ∀ {d : D} {v : V}, RD K al be H d v → RD K al' be' H' d v
  | .non, _, h => by unfold RD at *; exact h
  | .bl _, _, h => by unfold RD at *; exact h
  | .int _, _, h => by unfold RD at *; exact h
  | .str _, _, h => by unfold RD at *; exact h
  | .ty _, _, h => by unfold RD at *; exact h
  | .cls _, _, h => by unfold RD at *; exact h
  | .tup ds, v, h => by
    unfold RD at *
    obtain ⟨a, vs, e, h, r⟩ := h
    exact ⟨a, vs, e, h1 _ _ trivial h, RDs.mono2 h1 h2 r⟩
  | .lst ds, v, h => by
    unfold RD at *
    obtain ⟨a, vs, e, h, r⟩ := h
    exact ⟨a, vs, e, h1 _ _ trivial h, RDs.mono2 h1 h2 r⟩
  | .scr ns, v, h => by
    unfold RD at *
    obtain ⟨a, e, h⟩ := h
    exact ⟨a, e, h.imp (h1 _ _ trivial) (fun q => q.imp (fun ⟨o, q⟩ => ⟨o, h1 _ _ trivial q⟩) id)⟩
  | .dK ks ds, v, h => by
    unfold RD at *
    obtain ⟨a, kvs, e, h, q, r⟩ := h
    exact ⟨a, kvs, e, h1 _ _ trivial h, q, RDs.mono2 h1 h2 r⟩
  | .dT ks ds, v, h => by
    unfold RD at *
    obtain ⟨a, kvs, e, h, q, r⟩ := h
    exact ⟨a, kvs, e, h1 _ _ trivial h, q, RDs.mono2 h1 h2 r⟩
  | .ins c ns ds, v, h => by
    unfold RD at *
    obtain ⟨a, dx, fs, e, h, q, r⟩ := h
    exact ⟨a, dx, fs, e, h1 _ _ trivial h, q, RDs.mono2 h1 h2 r⟩
  | .exc c ns ds, v, h => by
    unfold RD at *
    obtain ⟨a, dx, fs, e, h, h', q, r⟩ := h
    exact ⟨a, dx, fs, e, h1 _ _ trivial h, ⟨fun d ed => h1 _ _ trivial (h'.1 d ed), h'.2⟩, q, RDs.mono2 h1 h2 r⟩
  | .ref k, v, h => by
    unfold RD at *
    obtain ⟨a, e, q⟩ := h
    exact ⟨a, h2 _ _ e, q⟩
theorem RDs.mono2 (h1 : ∀ a u, NotFd u → Fz al be H a u → Fz al' be' H' a u) (h2 : ∀ (k : Nat) (a : Addr), al[k]? = some a → al'[k]? = some a) : ∀ {ds : List D} {vs : List V}, RDs K al be H ds vs → RDs K al' be' H' ds vs
  | [], [], h => by unfold RDs at *; exact h
  | [], _ :: _, h => by unfold RDs at h; exact h.elim
  | _ :: _, [], h => by unfold RDs at h; exact h.elim
  | d :: ds, v :: vs, h => by unfold RDs at *; exact ⟨RD.mono2 h1 h2 h.1, RDs.mono2 h1 h2 h.2⟩
end
end
section
variable {K : PySem.W.Frag} {al be : List Addr} {H : Hp} {a : Addr} {od : Obj} {kvs : List (Key × V)}
theorem SS.relock {m : Sto} {w : HO} (s : SS K al be H m) (n : a ∉ al) (ha : ∃ u, H a = some u) (f : ∀ b u, NotFd u → Fz al be H b u → Fz al be (L2.upd H a w) b u) (hw : NoTup w := by intro _ z; cases z) : SS K al be (L2.upd H a w) m := by
  refine ⟨s.len, s.nd, fun i b o e1 e2 => ?_, fun b hb => ?_, s.dis⟩
  · have nb : b ≠ a := fun z => n (z ▸ List.mem_of_getElem? e1)
    have q := s.obj i b o e1 e2
    cases o with
    | lst ds => obtain ⟨vs, e, r⟩ := q; exact ⟨vs, by rw [upd_ne nb]; exact e, r.mono2 f fun _ _ z => z⟩
    | dK kvs => obtain ⟨vs, e, r⟩ := q; exact ⟨vs, by rw [upd_ne nb]; exact e, r.1, r.2.mono2 f fun _ _ z => z⟩
    | dT kvs => obtain ⟨vs, e, r⟩ := q; exact ⟨vs, by rw [upd_ne nb]; exact e, r.1, r.2.mono2 f fun _ _ z => z⟩
    | ins c fs => obtain ⟨dx, vs, e, r⟩ := q; exact ⟨dx, vs, by rw [upd_ne nb]; exact e, r.1, r.2.mono2 f fun _ _ z => z⟩
    | tab qn => obtain ⟨ea, ps, e, t, r⟩ := q; exact ⟨ea, ps, by rw [upd_ne nb]; exact e, t, fun pos cv hc => let ⟨c, e1, e2⟩ := r pos cv hc; ⟨c, e1, f _ _ trivial e2⟩⟩
    | sn ks => obtain ⟨xs, e, r, z⟩ := q; exact ⟨xs, by rw [upd_ne nb]; exact e, r.mono2 f fun _ _ z => z, z⟩
  · by_cases e : b = a
    · exact ⟨w, by rw [e, upd_same], hw⟩
    · obtain ⟨u, q, nt⟩ := s.tr b hb
      exact ⟨u, by rw [upd_ne e]; exact q, nt⟩
theorem SL.relock {σ : L2.St} {en : Sl} {w : HO} (l : SL K al be H σ en) (f : ∀ b u, NotFd u → Fz al be H b u → Fz al be (L2.upd H a w) b u) : SL K al be (L2.upd H a w) σ en :=
  ⟨l.len, fun i d e => let ⟨v, e1, r⟩ := l.get i d e; ⟨v, e1, r.mono2 f fun _ _ z => z⟩⟩
end
def SO.nox : SO → SO
  | .ex _ _ => .bad
  | o => o
section
variable {X : Cx} {tg : Expr} {i : Nat} {x : Str} {pos apos cpos : Pos}
end
section
variable {X : Cx} {E : XK} {pos : Pos} {tg iter : Expr} {body : List Stmt} {t : GT} {gb : GS} {ix : List Nat}
theorem nox_bad {o : SO} (h : o.nox ≠ .bad) : o.nox = o := by
  cases o <;> first | rfl | exact absurd rfl h
end
section
variable {X : Cx} {E : XK} {pos : Pos} {tg iter elt : Expr} {ifs : List Expr} {scope : Scope} {t : GT} {c : GB} {g : GE}
end
end L3
namespace L3
open PySem PySem.Spec L2
open PyProof.Rows hiding St
section
variable {X : Cx}
end
section
variable {K : PySem.W.Frag} {E : XK}
end
section
variable {X : Cx} {E : XK} {o e f : Expr} {go ge gf : GE} {apos cpos : Pos}
end
end L3
namespace L3
open PySem PySem.Spec L2
open PyProof.Rows hiding St
mutual
def D.plain (b : Bool) : D → Bool
  | .tup ds => D.plains b ds
  | .lst ds => b && D.plains b ds
  | .dK _ _ => false
  | .dT _ _ => false
  | .ins _ _ _ => false
  | .exc _ _ _ => false
  | .scr _ => false
  | _ => true
def D.plains (b : Bool) : List D → Bool
  | [] => true
  | d :: ds => D.plain b d && D.plains b ds
end
def MO.plain (b : Bool) : MO → Bool
  | .lst ds => D.plains b ds
  | .dK kvs => D.plains b (kvs.map (·.2))
  | .dT kvs => D.plains b (kvs.map (·.2))
  | .ins _ fs => D.plains b (fs.map (·.2))
  | .tab _ => false
  | .sn _ => false
section
variable {K : PySem.W.Frag} {al al' be : List Addr} {H : Hp} {b : Bool}
mutual
theorem RD.plain (h1 : ∀ a vs, Fz al be H a (.tup vs) → Fz al' be H a (.tup vs)) (h3 : b = true → ∀ a vs, Fz al be H a (.lst vs) → Fz al' be H a (.lst vs)) (h2 : ∀ (k : Nat) (a : Addr), al[k]? = some a → al'[k]? = some a) : ∀ {d : D} {v : V}, D.plain b d = true → RD K al be H d v → RD K al' be H d v
  | .non, _, _, h => by unfold RD at *; exact h
  | .bl _, _, _, h => by unfold RD at *; exact h
  | .int _, _, _, h => by unfold RD at *; exact h
  | .str _, _, _, h => by unfold RD at *; exact h
  | .ty _, _, _, h => by unfold RD at *; exact h
  | .cls _, _, _, h => by unfold RD at *; exact h
  | .tup ds, v, hb, h => by
    unfold D.plain at hb
    unfold RD at *
    obtain ⟨a, vs, e, h, r⟩ := h
    exact ⟨a, vs, e, h1 _ _ h, RDs.plain h1 h3 h2 hb r⟩
  | .ref k, v, b, h => by
    unfold RD at *
    obtain ⟨a, e, q⟩ := h
    exact ⟨a, h2 _ _ e, q⟩
  | .lst ds, v, hb, h => by
    unfold D.plain at hb
    simp only [Bool.and_eq_true] at hb
    unfold RD at *
    obtain ⟨a, vs, e, h, r⟩ := h
    exact ⟨a, vs, e, h3 hb.1 _ _ h, RDs.plain h1 h3 h2 hb.2 r⟩
  | .dK ks ds, v, hb, h => by unfold D.plain at hb; cases hb
  | .dT ks ds, v, hb, h => by unfold D.plain at hb; cases hb
  | .ins c ns ds, v, hb, h => by unfold D.plain at hb; cases hb
  | .exc c ns ds, v, hb, h => by unfold D.plain at hb; cases hb
  | .scr ns, v, hb, h => by unfold D.plain at hb; cases hb
theorem RDs.plain (h1 : ∀ a vs, Fz al be H a (.tup vs) → Fz al' be H a (.tup vs)) (h3 : b = true → ∀ a vs, Fz al be H a (.lst vs) → Fz al' be H a (.lst vs)) (h2 : ∀ (k : Nat) (a : Addr), al[k]? = some a → al'[k]? = some a) : ∀ {ds : List D} {vs : List V}, D.plains b ds = true → RDs K al be H ds vs → RDs K al' be H ds vs
  | [], [], _, h => by unfold RDs at *; exact h
  | [], _ :: _, _, h => by unfold RDs at h; exact h.elim
  | _ :: _, [], _, h => by unfold RDs at h; exact h.elim
  | d :: ds, v :: vs, hb, h => by
    unfold D.plains at hb
    simp only [Bool.and_eq_true] at hb
    unfold RDs at *
    exact ⟨RD.plain h1 h3 h2 hb.1 h.1, RDs.plain h1 h3 h2 hb.2 h.2⟩
end
theorem RO.plain (h1 : ∀ a vs, Fz al be H a (.tup vs) → Fz al' be H a (.tup vs)) (h3 : b = true → ∀ a vs, Fz al be H a (.lst vs) → Fz al' be H a (.lst vs)) (h2 : ∀ (k : Nat) (a : Addr), al[k]? = some a → al'[k]? = some a) {a : Addr} {o : MO} (hb : MO.plain b o = true) (h : RO K al be H a o) : RO K al' be H a o := by
  cases o with
  | lst ds => obtain ⟨vs, e, r⟩ := h; exact ⟨vs, e, r.plain h1 h3 h2 hb⟩
  | dK kvs => obtain ⟨vs, e, q, r⟩ := h; exact ⟨vs, e, q, r.plain h1 h3 h2 hb⟩
  | dT kvs => obtain ⟨vs, e, q, r⟩ := h; exact ⟨vs, e, q, r.plain h1 h3 h2 hb⟩
  | ins c fs => obtain ⟨dx, vs, e, q, r⟩ := h; exact ⟨dx, vs, e, q, r.plain h1 h3 h2 hb⟩
  | tab q => cases hb
  | sn ks => cases hb
end
section
variable {X : Cx} {E : XK} {e : Expr} {g : GE}
def PA (X : Cx) (st : Stmt) (j : Nat) (E : XK) (g : GE) : Prop := PS X st (fun D σ H => tG X.K E g σ H fun v H' => D.nx (σ.set j (some v)) H')
end
section
variable {X : Cx} {E : XK} {tg iter elt : Expr} {ifs : List Expr} {scope : Scope} {pos : Pos} {t : GT} {c : GB} {g : GE}
end
def bListM : FM := fun ds m => match ds with
  | [d] => match seqOf m d with
    | some es => .ok (.ref m.length) (m ++ [.lst es])
    | none => .bad
  | _ => .bad
theorem on_listM {K : PySem.W.Frag} {E : XK} : OpN K E bListM (fun xs H Q => ∃ p ys, xs = [.ref p] ∧ (SqL K H p ys ∨ SqT K H p ys) ∧ ∀ l, H l = none → Q (.ref l) (upd H l (.lst ys))) := fun al be H m ds vs Q s r h => by
  unfold bListM at h
  split at h
  · split at h
    · rename_i es e
      obtain ⟨v, rfl, rv⟩ := r.one
      obtain ⟨a, us, rfl, q, ru⟩ := seqOf_ok s rv e
      refine ⟨a, us, rfl, q, fun l hl => ?_⟩
      obtain ⟨c, s2, r2⟩ := new_lst s hl ru
      exact h _ _ c s2 _ r2
    · exact h.elim
  · exact h.elim
end L3
namespace L3
open PySem PySem.Spec L2
open PyProof.Rows hiding St
theorem units65 {k : Nat} {A : Around} (r : Room k A) : A.units + 65 < cLine := by have := r.un; omega
def oInX (neg : Bool) : D → D → Sto → Out D := fun x y m => match seqOf m y with
  | some ds => if flatD x = true ∧ ds.all flatD = true then .ok (.bl (if neg then !(ds.any fun y => eqFlat y x) else ds.any fun y => eqFlat y x)) m else (match viewL m y with
    | .lst es => if D.dp 60 x = true ∧ D.dp 60 (.lst es) = true then .ok (.bl (if neg then !((pds es).any fun z => PyData.eqv z (pd x)) else (pds es).any fun z => PyData.eqv z (pd x))) m else .bad
    | _ => .bad)
  | none => .bad
section
variable {K : PySem.W.Frag} {E : XK} {X : Cx}
def rInX (K : PySem.W.Frag) (neg : Bool) : R2 := fun x y H Q => rIn K neg x y H Q ∨ (if neg then L2.rNotInD K else L2.rInD K) x y H Q
theorem op_notInX (hu : X.A.units + 65 < cLine) : OpR X (compareOp .NotIn) (rInX X.K true) := OpR.or op_notIn_seq (L2.op_notInD hu)
theorem dp_view {m : Sto} {x : D} (h : D.dp 60 x = true) : viewL m x = x := by
  cases x <;> first | rfl | (unfold D.dp at h; cases h)
theorem op2_inX {neg : Bool} : Op2 K E (oInX neg) (rInX K neg) := fun al be H m x y v u Q s rx ry h => by
  unfold oInX at h
  split at h
  · rename_i ds e
    split at h
    · rename_i hf
      obtain ⟨a, vs, rfl, q, rv⟩ := seqOf_ok s ry e
      obtain ⟨h1, h2⟩ := inFlat_v rx hf.1 rv hf.2
      refine .inl ⟨a, vs, rfl, q, flat_v rx hf.1, h1, ?_⟩
      rw [h2]
      exact h.now s _ (rd_bl.mpr rfl)
    · split at h
      · rename_i es ev
        split at h
        · rename_i hd
          have hx : D.dp 60 (viewL m x) = true := by rw [dp_view hd.1]; exact hd.1
          have dx := viewL_dp s rx hx
          rw [dp_view hd.1] at dx
          have dy := viewL_dp s ry (by rw [ev]; exact hd.2)
          rw [ev] at dy
          have sy := shaped_of hd.2
          have epd : pd (.lst es) = .list (pds es) := by unfold pd; rfl
          rw [epd] at dy sy
          right
          cases neg with
          | false => exact ⟨pd x, pds es, dx, dy, shaped_of hd.1, sy, h.now s _ (rd_bl.mpr rfl)⟩
          | true => exact ⟨pd x, pds es, dx, dy, shaped_of hd.1, sy, h.now s _ (rd_bl.mpr rfl)⟩
        · exact h.elim
      · exact h.elim
  · exact h.elim
end
end L3
namespace MaxD
open PySem
section
variable {prog : Program} {w : World} {A : Around} {R : Result → Shared → Prop} {I : Addr} {fp wr : List Addr} {n : Nat} {P : Nat → Value → Prop} {St : Nat → Heap → Prop} {d : Value}
end
section
variable {prog : Program} {w : World} {A : Around} {E : Value → Shared → Prop} {s : Shared} {d : Value}
end
end MaxD
namespace L2
open PySem PySem.Spec PyProof.Rows
end L2
namespace L3
open PySem PySem.Spec L2
open PyProof.Rows hiding St
section
variable {X : Cx} {E : XK} {x : Str} {p pos : Pos} {e : Expr} {kws : List Keyword} {g z : GA}
end
def aStar (g : GE) (gs : GA) : GA := fun en m => (g en m).bind fun d m1 => match seqOf m1 d with
  | some ds => (gs en m1).bind fun es m2 => .ok (ds ++ es) m2
  | none => .bad
section
variable {X : Cx} {E : XK} {p : Pos} {e : Expr} {es : List Expr} {g : GE} {gs : GA}
theorem da_star (he : DE X E e g) (hr : DA X E es gs) (hs : starEach (.Starred e p :: es) X.env = (true, eval e X.env) :: starEach es X.env := by rfl) : DA X E (.Starred e p :: es) (aStar g gs) :=
  paImp (StX.pa_star he hr hs) fun σ H Q ⟨al, be, m, en, s, l, h⟩ => ⟨al, be, m, en, s, l, Post.bind h fun d al1 H1 m1 c1 s1 h1 v rv => by
    split at h1
    · rename_i ds ed
      obtain ⟨a, vs, rfl, q, rvs⟩ := seqOf_ok s1 rv ed
      exact ⟨a, vs, rfl, q.symm, al1, be, m1, en, s1, l.chg c1, Post.bind h1 fun es al2 H2 m2 c2 s2 h2 ws rws => h2.now s2 _ (RDs.append (c2.rds rvs) rws)⟩
    · exact h1.elim⟩
end
section
variable {X : Cx} {E : XK} {pos cpos p npos : Pos} {x : Str} {e f : Expr} {a b : List Stmt} {ge gf : GE} {ga gb : GS} {op : CmpOp} {r : R2} {fo : D → D → Sto → Out D}
end
end L3
namespace L3
open PySem PySem.Spec L2
open PyProof.Rows hiding St

mutual
inductive RS (h : Heap) : Value → PyData → Prop
  | none : RS h .none .none
  | bool (b : Bool) : RS h (.bool b) (.bool b)
  | int (i : Int) (t : Tok) : RS h (.int i t) (.int i)
  | str (x : Str) (t : Tok) : RS h (.str x t) (.str x)
  | list {a : Addr} {o : Obj} {vs : Array Value} {n : Nat} {xs : List PyData} : h.get? a = some o → o.cls = .type "list" → o.data = .seq vs n → RSs h vs.toList xs → RS h (.ref a) (.list xs)
  | tuple {a : Addr} {o : Obj} {vs : Array Value} {n : Nat} {xs : List PyData} : h.get? a = some o → o.cls = .type "tuple" → o.data = .seq vs n → RSs h vs.toList xs → RS h (.ref a) (.tuple xs)
  | dict {a : Addr} {o : Obj} {es : Array DictEntry} {n : Nat} {kvs : List (PyData × PyData)} : (a == sysModules) = false → h.get? a = some o → o.cls = .type "dict" → o.data = .dict es n →
      RSs h (es.toList.map (·.key)) (kvs.map (·.1)) → RSs h (es.toList.map (·.val)) (kvs.map (·.2)) → RS h (.ref a) (.dict kvs)
inductive RSs (h : Heap) : List Value → List PyData → Prop
  | nil : RSs h [] []
  | cons {v : Value} {vs : List Value} {d : PyData} {ds : List PyData} : RS h v d → RSs h vs ds → RSs h (v :: vs) (d :: ds)
end
section
variable {prog : Program} {w : World} {h : Heap}
mutual
theorem RS.reads : ∀ {v : Value} {d : PyData}, RS h v d → ∃ l, Reads h v d l
  | _, _, .none => ⟨_, .none⟩
  | _, _, .bool b => ⟨_, .bool b⟩
  | _, _, .int i t => ⟨_, .int i t⟩
  | _, _, .str x t => ⟨_, .str x t⟩
  | _, _, .list g c e r => by obtain ⟨l, q⟩ := RSs.reads r; exact ⟨_, .list g c e q⟩
  | _, _, .tuple g c e r => by obtain ⟨l, q⟩ := RSs.reads r; exact ⟨_, .tuple g c e q⟩
  | _, _, .dict _ g c e r r' => by
    obtain ⟨l, q⟩ := RSs.reads r
    obtain ⟨l', q'⟩ := RSs.reads r'
    exact ⟨_, .dict g c e q q'⟩
theorem RSs.reads : ∀ {v : List Value} {d : List PyData}, RSs h v d → ∃ l, ReadsAll h v d l
  | _, _, .nil => ⟨_, .nil⟩
  | _, _, .cons r rs => by
    obtain ⟨l, q⟩ := RS.reads r
    obtain ⟨l', q'⟩ := RSs.reads rs
    exact ⟨_, .cons q q'⟩
end
theorem kv_key {kvs : List (PyData × PyData)} (hz : (dictText (PyData.shownKv kvs)).length ≤ sizeLine) : ∀ t ∈ PyData.shownAll (kvs.map (·.1)), t.length ≤ sizeLine := fun t ht => by
  obtain ⟨p, hp, hl⟩ := PyData.shownKv_key_le kvs t ht
  have := dictText_mem_le hp
  omega
theorem kv_val {kvs : List (PyData × PyData)} (hz : (dictText (PyData.shownKv kvs)).length ≤ sizeLine) : ∀ t ∈ PyData.shownAll (kvs.map (·.2)), t.length ≤ sizeLine := fun t ht => by
  obtain ⟨p, hp, hl⟩ := PyData.shownKv_val_le kvs t ht
  have := dictText_mem_le hp
  omega
mutual
theorem RS.rep : ∀ {v : Value} {d : PyData}, RS h v d → d.showable = true → d.shown.length ≤ sizeLine → ∃ l, ReadAtMost h d.depth l ∧ ReprK prog w l h d.depth v d.shown
  | _, _, .none, _, _ => ⟨[], nofun, by unfold PyData.shown; exact .of_is ReprIs.none _ _ _⟩
  | _, _, .bool b, _, _ => ⟨[], nofun, by unfold PyData.shown; exact .of_is (ReprIs.bool b) _ _ _⟩
  | _, _, .int i t, q, _ => ⟨[], nofun, by unfold PyData.shown; unfold PyData.showable at q; exact .of_is (ReprIs.int t (of_decide_eq_true q)) _ _ _⟩
  | _, _, .str x t, _, z => ⟨[], nofun, by unfold PyData.shown at z ⊢; exact .of_is (ReprIs.str x t z) _ _ _⟩
  | _, _, .list (a := a) (vs := vs) (xs := xs) g c e r, q, z => by
    unfold PyData.showable at q
    unfold PyData.shown at z
    obtain ⟨l, hl, hk⟩ := RSs.rep r q fun t ht => Nat.le_trans (listText_mem_le ht) z
    obtain ⟨as, rd⟩ := RS.reads (.list g c e r)
    have na := not_mem_of_deeper rd (n := PyData.depthAll xs) (by unfold PyData.depth; omega) hl
    refine ⟨a :: l, .cons rd (by unfold PyData.depth; omega) hl, ?_⟩
    unfold PyData.depth PyData.shown
    obtain ⟨us⟩ := vs
    cases us with
    | nil =>
      have r' : RSs h [] xs := r
      cases r'
      unfold PyData.shownAll
      rw [listText_nil]
      exact ReprK.listEmpty g c e
    | cons x us => exact ReprK.list g c e na (by simpa using hk.length_eq) fun i y ey => hk.item i y (by simpa using ey)
  | _, _, .tuple (a := a) (xs := xs) g c e r, q, z => by
    unfold PyData.showable at q
    unfold PyData.shown at z
    obtain ⟨l, hl, hk⟩ := RSs.rep r q fun t ht => Nat.le_trans (tupleText_mem_le ht) z
    obtain ⟨as, rd⟩ := RS.reads (.tuple g c e r)
    have na := not_mem_of_deeper rd (n := PyData.depthAll xs) (by unfold PyData.depth; omega) hl
    refine ⟨a :: l, .cons rd (by unfold PyData.depth; omega) hl, ?_⟩
    unfold PyData.depth PyData.shown
    exact ReprK.tuple g c e na hk
  | _, _, .dict (a := a) (es := es) (kvs := kvs) y g c e r r', q, z => by
    unfold PyData.showable at q
    unfold PyData.shown at z
    obtain ⟨q1, q2⟩ := PyData.showableKv_split kvs q
    obtain ⟨l1, h1, k1⟩ := RSs.rep r q1 (kv_key z)
    obtain ⟨l2, h2, k2⟩ := RSs.rep r' q2 (kv_val z)
    obtain ⟨as, rd⟩ := RS.reads (.dict y g c e r r')
    have d1 := PyData.depthAll_keys_le kvs
    have d2 := PyData.depthAll_vals_le kvs
    have hl := (h1.mono d1).append (h2.mono d2)
    have na := not_mem_of_deeper rd (n := PyData.depthKv kvs) (by unfold PyData.depth; omega) hl
    refine ⟨a :: (l1 ++ l2), .cons rd (by unfold PyData.depth; omega) hl, ?_⟩
    unfold PyData.depth PyData.shown
    rw [PyData.shownKv_eq]
    exact ReprK.dict g c e y na (.of_two _ _ _ (k1.more_le (fun b hb => List.mem_append_left l2 hb) d1) (k2.more_le (fun b hb => List.mem_append_right l1 hb) d2))
theorem RSs.rep : ∀ {v : List Value} {d : List PyData}, RSs h v d → PyData.showableAll d = true → (∀ t ∈ PyData.shownAll d, t.length ≤ sizeLine) → ∃ l, ReadAtMost h (PyData.depthAll d) l ∧ ReprAllK prog w l h (PyData.depthAll d) v (PyData.shownAll d)
  | _, _, .nil, _, _ => ⟨[], nofun, by unfold PyData.shownAll; exact .nil⟩
  | _, _, .cons (d := d) (ds := ds) r rs, q, z => by
    unfold PyData.showableAll at q
    obtain ⟨q1, q2⟩ := Bool.and_eq_true_iff.mp q
    unfold PyData.shownAll at z
    obtain ⟨l1, h1, k1⟩ := RS.rep r q1 (z _ List.mem_cons_self)
    obtain ⟨l2, h2, k2⟩ := RSs.rep rs q2 fun t ht => z t (List.mem_cons_of_mem _ ht)
    have m1 := Nat.le_max_left d.depth (PyData.depthAll ds)
    have m2 := Nat.le_max_right d.depth (PyData.depthAll ds)
    refine ⟨l1 ++ l2, ?_, ?_⟩
    · unfold PyData.depthAll
      exact (h1.mono m1).append (h2.mono m2)
    · unfold PyData.depthAll PyData.shownAll
      exact .cons ((k1.more fun b hb => List.mem_append_left l2 hb).level_le m1) (k2.more_le (fun b hb => List.mem_append_right l1 hb) m2)
end
theorem RS.shows {a : Addr} {d : PyData} (r : RS h (.ref a) d) (q : d.showable = true) (z : d.shown.length ≤ sizeLine) : ∃ T id, ShowsBy prog w h a d T id := by
  obtain ⟨as, rd⟩ := RS.reads r
  cases r with
  | @list _ o vs n xs g c e r =>
    unfold PyData.showable at q
    unfold PyData.shown at z
    obtain ⟨l, hl, hk⟩ := RSs.rep (prog := prog) (w := w) r q fun t ht => Nat.le_trans (listText_mem_le ht) z
    have na := not_mem_of_deeper rd (n := PyData.depthAll xs) (by unfold PyData.depth; omega) hl
    refine ⟨"list", "list.__repr__", F.slot_list_repr.toG, F.slot_list_str, F.slot_list_format, fun s k => ⟨o, k _ _ g, c⟩, fun A E s Q hg hu k hQ => ?_⟩
    unfold PyData.depth at hu
    unfold PyData.shown at hQ
    obtain ⟨us⟩ := vs
    cases us with
    | nil =>
      have r' : RSs h [] xs := r
      cases r'
      unfold PyData.shownAll at hQ
      rw [listText_nil] at hQ
      exact call_list_repr_empty ⟨o, k _ _ g, c⟩ (k _ _ g) e (hQ s.heap _ _ fun _ _ q => q)
    | cons x us => exact call_list_reprK g c e na (by simpa using hk.length_eq) (fun i y ey => hk.item i y (by simpa using ey)) hg (fun b _ => Clear.nil b) hu k hQ z
  | @tuple _ o vs n xs g c e r =>
    unfold PyData.showable at q
    unfold PyData.shown at z
    obtain ⟨l, hl, hk⟩ := RSs.rep (prog := prog) (w := w) r q fun t ht => Nat.le_trans (tupleText_mem_le ht) z
    have na := not_mem_of_deeper rd (n := PyData.depthAll xs) (by unfold PyData.depth; omega) hl
    refine ⟨"tuple", "tuple.__repr__", F.slot_tuple_repr, F.slot_tuple_str, F.slot_tuple_format, fun s k => ⟨o, k _ _ g, c⟩, fun A E s Q hg hu k hQ => ?_⟩
    unfold PyData.depth at hu
    unfold PyData.shown at hQ
    exact call_tuple_reprK g c e na hk hg (fun b _ => Clear.nil b) hu k hQ z
  | @dict _ o es n kvs y g c e r r' =>
    unfold PyData.showable at q
    unfold PyData.shown at z
    obtain ⟨q1, q2⟩ := PyData.showableKv_split kvs q
    obtain ⟨l1, h1, k1⟩ := RSs.rep (prog := prog) (w := w) r q1 (kv_key z)
    obtain ⟨l2, h2, k2⟩ := RSs.rep (prog := prog) (w := w) r' q2 (kv_val z)
    have d1 := PyData.depthAll_keys_le kvs
    have d2 := PyData.depthAll_vals_le kvs
    have hl := (h1.mono d1).append (h2.mono d2)
    have na := not_mem_of_deeper rd (n := PyData.depthKv kvs) (by unfold PyData.depth; omega) hl
    refine ⟨"dict", "dict.__repr__", F.slot_dict_repr, F.slot_dict_str, F.slot_dict_format, fun s k => ⟨o, k _ _ g, c⟩, fun A E s Q hg hu k hQ => ?_⟩
    unfold PyData.depth at hu
    unfold PyData.shown at hQ
    rw [PyData.shownKv_eq] at hQ z
    exact call_dict_reprK g c e y na (.of_two _ _ _ (k1.more_le (fun b hb => List.mem_append_left l2 hb) d1) (k2.more_le (fun b hb => List.mem_append_right l1 hb) d2)) hg (fun b _ => Clear.nil b) hu k hQ z
end

def keyP : Key → PyData
  | .inl i => .int i
  | .inr x => .str x
mutual
inductive DA' (K : PySem.W.Frag) (H : Hp) : V → PyData → Prop
  | non : DA' K H .non .none
  | bl (b : Bool) : DA' K H (.bl b) (.bool b)
  | int (i : Int) : DA' K H (.int i) (.int i)
  | str (x : Str) : DA' K H (.str x) (.str x)
  | lst {a : Addr} {xs : List V} {ds : List PyData} : SqL K H a xs → DAs K H xs ds → DA' K H (.ref a) (.list ds)
  | tup {a : Addr} {xs : List V} {ds : List PyData} : SqT K H a xs → DAs K H xs ds → DA' K H (.ref a) (.tuple ds)
  | dct {a : Addr} {kvs : List (Key × V)} {ds : List PyData} : Rd H a (.dK kvs) → DAs K H (kvs.map (·.2)) ds → DA' K H (.ref a) (.dict ((kvs.map fun p => keyP p.1).zip ds))
inductive DAs (K : PySem.W.Frag) (H : Hp) : List V → List PyData → Prop
  | nil : DAs K H [] []
  | cons {v : V} {vs : List V} {d : PyData} {ds : List PyData} : DA' K H v d → DAs K H vs ds → DAs K H (v :: vs) (d :: ds)
end
theorem DAs.length {K : PySem.W.Frag} {H : Hp} : ∀ {vs : List V} {ds : List PyData}, DAs K H vs ds → vs.length = ds.length
  | _, _, .nil => rfl
  | _, _, .cons _ r => by simp [DAs.length r]
theorem rs_keys {P : Program} {w : World} {h : Heap} : ∀ {es : List DictEntry} {kvs : List (Key × Value)}, Pairs (mixKind P w) es kvs → RSs h (es.map (·.key)) (kvs.map fun p => keyP p.1)
  | _, _, .nil => .nil
  | _, _, .cons (e := e) (kv := kv) h1 _ r => by
    refine .cons ?_ (rs_keys r)
    show RS h e.key (keyP kv.1)
    rcases keyIs_shape h1 with ⟨i, t, e1, e2⟩ | ⟨x, t, e1, e2⟩
    · rw [e1]; rw [e2]; exact .int i t
    · rw [e1]; rw [e2]; exact .str x t
theorem pairs_val {P : Program} {w : World} : ∀ {es : List DictEntry} {kvs : List (Key × Value)}, Pairs (mixKind P w) es kvs → es.map (·.val) = kvs.map (·.2)
  | _, _, .nil => rfl
  | _, _, .cons _ e r => by simp [e, pairs_val r]
theorem kv_keys : ∀ {kvs : List (Key × V)} {vs : List (Key × Value)}, KV kvs vs → vs.map (·.1) = kvs.map (·.1) ∧ Vals (kvs.map (·.2)) (vs.map (·.2))
  | _, _, .nil => ⟨rfl, .nil⟩
  | _, _, .cons r t => by
    obtain ⟨a, b⟩ := kv_keys t
    refine ⟨?_, .cons r.2 b⟩
    rw [List.map_cons, List.map_cons, a, r.1]
section
variable {X : Cx} {pins : List (Addr × Obj)} {σ : St} {H : Hp} {s : Shared}
mutual
theorem DA'.rs (I : Inv X pins σ H s) : ∀ {v : V} {d : PyData} (u : Value), DA' X.K H v d → RelV v u → RS s.heap u d
  | _, _, _, .non, r => by cases r; exact .none
  | _, _, _, .bl b, r => by cases r; exact .bool b
  | _, _, _, .int i, r => by obtain ⟨t, rfl⟩ := r; exact .int i t
  | _, _, _, .str x, r => by obtain ⟨t, rfl⟩ := r; exact .str x t
  | _, _, _, .lst q ha, r => by
    cases r
    obtain ⟨its, rv, ⟨o, n, ho, hc, _, hd⟩, _⟩ := I.list q
    exact .list ho hc hd (DAs.rs I its ha rv)
  | _, _, _, .tup q ha, r => by
    cases r
    obtain ⟨its, rv, ⟨o, ho, hc, n, hd⟩, _⟩ := I.tuple q
    exact .tuple ho hc hd (DAs.rs I its ha rv)
  | _, _, _, .dct (kvs := kvs) (ds := ds) q ha, r => by
    cases r
    obtain ⟨_, hy, vs, hv, o, es, ep, ho, hx, hd, _, hp, _⟩ := dk_rd I.hok q
    obtain ⟨e1, e2⟩ := kv_keys hv
    have hl := ha.length
    rw [List.length_map] at hl
    have f1 : (((kvs.map fun p => keyP p.1).zip ds).map (·.1)) = kvs.map fun p => keyP p.1 := List.map_fst_zip (by simp; omega)
    have f2 : (((kvs.map fun p => keyP p.1).zip ds).map (·.2)) = ds := List.map_snd_zip (by simp; omega)
    refine .dict hy ho hx.1 hd ?_ ?_
    · rw [f1]
      have := rs_keys (h := s.heap) hp
      have e3 : (vs.map fun p => keyP p.1) = kvs.map fun p => keyP p.1 := by
        have := congrArg (List.map keyP) e1
        rw [List.map_map, List.map_map] at this
        exact this
      rw [e3] at this
      exact this
    · rw [f2, pairs_val hp]
      exact DAs.rs I _ ha e2
theorem DAs.rs (I : Inv X pins σ H s) : ∀ {vs : List V} {ds : List PyData} (us : List Value), DAs X.K H vs ds → Vals vs us → RSs s.heap us ds
  | _, _, _, .nil, r => by cases r; exact .nil
  | _, _, _, .cons h1 h2, r => by
    cases r with
    | cons r1 r2 => exact .cons (DA'.rs I _ h1 r1) (DAs.rs I _ h2 r2)
end
end
mutual
def px : D → PyData
  | .non => .none
  | .bl b => .bool b
  | .int i => .int i
  | .str x => .str x
  | .tup ds => .tuple (pxs ds)
  | .lst ds => .list (pxs ds)
  | .scr ns => .list (ns.map .int)
  | .dK ks ds => .dict ((ks.map keyP).zip (pxs ds))
  | _ => .none
def pxs : List D → List PyData
  | [] => []
  | d :: ds => px d :: pxs ds
end
mutual
def D.pu : D → Bool
  | .non => true
  | .bl _ => true
  | .int _ => true
  | .str _ => true
  | .scr _ => true
  | .tup ds => D.pus ds
  | .lst ds => D.pus ds
  | .dK _ ds => D.pus ds
  | _ => false
def D.pus : List D → Bool
  | [] => true
  | d :: ds => D.pu d && D.pus ds
end
section
variable {K : PySem.W.Frag} {al be : List Addr} {H : Hp}
theorem das_ints : ∀ ns : List Int, DAs K H (ns.map V.int) (ns.map PyData.int)
  | [] => .nil
  | n :: ns => .cons (.int n) (das_ints ns)
mutual
theorem rd_da : ∀ (d : D) (v : V), D.pu d = true → RD K al be H d v → DA' K H v (px d)
  | .non, v, h, r => by rw [rd_non.mp r]; unfold px; exact .non
  | .bl b, v, h, r => by rw [rd_bl.mp r]; unfold px; exact .bl b
  | .int i, v, h, r => by rw [rd_int.mp r]; unfold px; exact .int i
  | .str x, v, h, r => by rw [rd_str.mp r]; unfold px; exact .str x
  | .tup ds, v, h, r => by
    unfold D.pu at h
    obtain ⟨a, vs, rfl, q, rv⟩ := rd_tup r
    unfold px; exact .tup q (rds_da ds vs h rv)
  | .lst ds, v, h, r => by
    unfold D.pu at h
    obtain ⟨a, vs, rfl, q, rv⟩ := rd_lst r
    unfold px; exact .lst (SqL.of q) (rds_da ds vs h rv)
  | .scr ns, v, h, r => by
    obtain ⟨a, rfl, q⟩ := rd_scr r
    unfold px; exact .lst q (das_ints ns)
  | .dK ks ds, v, h, r => by
    unfold D.pu at h
    unfold RD at r
    obtain ⟨a, kvs, rfl, f, e, rv⟩ := r
    have := rds_da ds _ h rv
    unfold px
    rw [← e, List.map_map]
    exact .dct f.rd this
  | .ty _, v, h, r => by unfold D.pu at h; cases h
  | .cls _, v, h, r => by unfold D.pu at h; cases h
  | .dT _ _, v, h, r => by unfold D.pu at h; cases h
  | .ins _ _ _, v, h, r => by unfold D.pu at h; cases h
  | .exc _ _ _, v, h, r => by unfold D.pu at h; cases h
  | .ref _, v, h, r => by unfold D.pu at h; cases h
theorem rds_da : ∀ (ds : List D) (vs : List V), D.pus ds = true → RDs K al be H ds vs → DAs K H vs (pxs ds)
  | [], vs, _, r => by rw [r.nil_inv]; unfold pxs; exact .nil
  | d :: ds, vs, h, r => by
    unfold D.pus at h
    simp only [Bool.and_eq_true] at h
    obtain ⟨v, r', rfl, r1, r2⟩ := r.cons_inv
    unfold pxs
    exact .cons (rd_da d v h.1 r1) (rds_da ds r' h.2 r2)
end
end
def xtext (d : D) : Str := (px d).shown
def shOk (d : D) : Bool := D.pu d && (decide ((px d).depth ≤ 62) && ((px d).showable && decide ((px d).shown.length ≤ sizeLine)))
def bReprX : FM := fun ds m => match ds with
  | [d] => if shOk (viewL m d) = true then .ok (.str (xtext (viewL m d))) m else .bad
  | _ => .bad
def rReprX (K : PySem.W.Frag) : List V → Hp → VK → Prop := fun xs H Q => ∃ x d, xs = [x] ∧ DA' K H x d ∧ d.depth ≤ 62 ∧ d.showable = true ∧ d.shown.length ≤ sizeLine ∧ Q (.str d.shown) H
section
variable {X : Cx} {E : XK}
theorem cr_reprX (hG : X.A.guards = some []) (hu : X.A.units + 64 < cLine) : CallR X (.builtin "repr") (rReprX X.K) := fun pins s σ H xs us Q I r h => by
  obtain ⟨x, d, rfl, hd, hdp, hs, hl, q⟩ := h
  obtain ⟨u, rfl, ru⟩ := vals1 r
  have rs := DA'.rs I u hd ru
  have fin : ∀ {h' : Heap} {t t' : Tok}, (∀ b o, s.heap.get? b = some o → h'.get? b = some o) → EP X pins σ Q (.str d.shown t) { s with heap := h', toks := t' } := fun {h' t t'} k => ⟨.str d.shown, H, I.kept k, ⟨t, rfl⟩, q⟩
  have go : ∀ {a : Addr}, RS s.heap (.ref a) d → wpAny (model X.prog X.w) X.A (call (.builtin "repr") [.ref a]) (EP X pins σ Q) X.xe s := fun {a} rs => by
    obtain ⟨T, id, S⟩ := RS.shows (prog := X.prog) (w := X.w) rs hs hl
    exact call_repr_slot (by omega) (S.typeIs s fun b o e => e) S.slotRepr (S.call X.A.in1 X.xe s _ hG (by show X.A.units + 1 + d.depth < cLine; omega) (fun b o e => e) fun h' u tk hk => ⟨_, _, rfl, fin hk⟩)
  cases hd with
  | non => cases ru; exact PySem.P.repr_of_none ⟨.str _, H, I.tok _, ⟨_, rfl⟩, by unfold PyData.shown at q; exact q⟩
  | bl b => cases ru; exact PySem.P.repr_of_bool ⟨.str _, H, I.tok _, ⟨_, rfl⟩, by unfold PyData.shown at q; exact q⟩
  | int i =>
    obtain ⟨t, rfl⟩ := ru
    unfold PyData.showable at hs
    exact PySem.P.repr_of_int (of_decide_eq_true hs) ⟨.str _, H, I.tok _, ⟨_, rfl⟩, by unfold PyData.shown at q; exact q⟩
  | str y =>
    obtain ⟨t, rfl⟩ := ru
    unfold PyData.shown at hl q
    exact PySem.P.repr_of_str ⟨.str _, H, I.tok _, ⟨_, rfl⟩, q⟩ hl
  | lst hq ha => cases ru; exact go rs
  | tup hq ha => cases ru; exact go rs
  | dct hq ha => cases ru; exact go rs
end
theorem viewL_da {K : PySem.W.Frag} {al be : List Addr} {H : Hp} {m : Sto} {d : D} {v : V} (s : SS K al be H m) (r : RD K al be H d v) (h : D.pu (viewL m d) = true) : DA' K H v (px (viewL m d)) := by
  unfold viewL at h ⊢
  split at h
  · rename_i k
    split at h
    · rename_i ds e
      obtain ⟨a, ea, vs, hv, rv⟩ := s.store e
      obtain ⟨b, eb, rfl⟩ := rd_ref.mp r
      rw [ea] at eb; cases eb
      unfold D.pu at h
      unfold px
      exact .lst (SqL.of hv) (rds_da ds vs h rv)
    · unfold D.pu at h; cases h
  · exact rd_da d v h r
theorem on_reprX {K : PySem.W.Frag} {E : XK} : OpN K E bReprX (rReprX K) := fun al be H m ds vs Q s r h => by
  unfold bReprX at h
  split at h
  · split at h
    · rename_i d hd
      unfold shOk at hd
      simp only [Bool.and_eq_true, decide_eq_true_eq] at hd
      obtain ⟨h1, h2, h3, h4⟩ := hd
      obtain ⟨v, rfl, rv⟩ := r.one
      exact ⟨v, _, rfl, viewL_da s rv h1, h2, h3, h4, h.now s _ (rd_str.mpr rfl)⟩
    · exact h.elim
  · exact h.elim
end L3
namespace L3
open PySem PySem.Spec L2
open PyProof.Rows hiding St
section
variable {X : Cx} {E : XK} {e : Expr} {g : GE} {pos p2 : Pos}
theorem RDs.reverse {K : PySem.W.Frag} {al be : List Addr} {H : Hp} : ∀ {ds : List D} {vs : List V}, RDs K al be H ds vs → RDs K al be H ds.reverse vs.reverse
  | [], vs, h => by rw [h.nil_inv]; exact RDs.nil
  | d :: ds, vs, h => by
    obtain ⟨v, r, rfl, h1, h2⟩ := h.cons_inv
    rw [List.reverse_cons, List.reverse_cons]
    exact (RDs.reverse h2).append (.cons h1 .nil)
end
theorem RDs.rep {K : PySem.W.Frag} {al be : List Addr} {H : Hp} {ds : List D} {vs : List V} (h : RDs K al be H ds vs) : ∀ n : Nat, RDs K al be H (List.replicate n ds).flatten (List.replicate n vs).flatten
  | 0 => RDs.nil
  | n + 1 => by rw [List.replicate_succ, List.replicate_succ, List.flatten_cons, List.flatten_cons]; exact h.append (RDs.rep h n)
section
variable {X : Cx} {E : XK} {a b : Expr} {ga gb : GE} {pos : Pos}
end
def rNe0 (K : PySem.W.Frag) : R2 := fun x y H Q => ∃ a b xs, x = .ref a ∧ y = .ref b ∧ SqT K H a xs ∧ SqT K H b [] ∧ Q (.bl (!xs.isEmpty)) H
theorem op_ne0 {X : Cx} (hu : X.A.units < cLine) : OpR X (compareOp .NotEq) (rNe0 X.K) := by
  intro pins s σ H x y v u Q I rx ry h
  obtain ⟨a, b, xs, rfl, rfl, h1, h2, q⟩ := h
  cases rx
  cases ry
  obtain ⟨is1, r1, t1, _⟩ := I.tuple h1
  obtain ⟨is2, r2, t2, _⟩ := I.tuple h2
  cases r2
  have key := SeqAt.RcNeAt.tuples (A := X.A) (e := fun _ => true) t1 t2 hu fun j _ hj => absurd hj (by simp)
  refine key X.prog X.w X.xe _ ⟨.bl (!xs.isEmpty), H, I, ?_, q⟩
  have e : (!((List.range (min is1.toArray.size ([] : List Value).toArray.size)).all (fun _ => true) && is1.toArray.size == ([] : List Value).toArray.size)) = !xs.isEmpty := by
    have := r1.length
    cases xs with
    | nil => cases r1; rfl
    | cons a b => cases r1; simp
  rw [e]
  rfl
def oNeX : D → D → Sto → Out D := fun x y m => match x, y with
  | .tup ds, .tup [] => .ok (.bl (!ds.isEmpty)) m
  | x, y => oEq true x y m
theorem op2_neX {K : PySem.W.Frag} {E : XK} : Op2 K E oNeX (fun x y H Q => rNe0 K x y H Q ∨ rNeD K x y H Q) := fun al be H m x y v u Q s rx ry h => by
  unfold oNeX at h
  split at h
  · obtain ⟨a, vs, e1, q1, r1⟩ := rd_tup rx
    obtain ⟨b, us, e2, q2, r2⟩ := rd_tup ry
    obtain rfl := r2.nil_inv
    refine .inl ⟨a, b, vs, e1, e2, q1, q2, ?_⟩
    rw [← isEmpty_rds r1]
    exact h.now s _ (rd_bl.mpr rfl)
  · exact .inr (op2_ne al be H m x y v u Q s rx ry h)
theorem or_neX {X : Cx} (h0 : X.A.units < cLine) (hu : X.A.units + 64 < cLine) : OpR X (compareOp .NotEq) (fun x y H Q => rNe0 X.K x y H Q ∨ rNeD X.K x y H Q) := OpR.or (op_ne0 h0) (op_neD hu)
def tyNameX (m : Sto) : D → Option String
  | .dK _ _ => some "dict"
  | d => tyName m d
theorem tyNameX_ok {K : PySem.W.Frag} {al be : List Addr} {H : Hp} {m : Sto} {d : D} {v : V} {t : String} (s : SS K al be H m) (r : RD K al be H d v) (h : tyNameX m d = some t) : TyX K H v (.type t) := by
  unfold tyNameX at h
  split at h
  · cases h
    unfold RD at r
    obtain ⟨a, kvs, rfl, f, _⟩ := r
    rcases f.rd with q | ⟨o, q⟩
    · exact .base (.dK q)
    · exact .fDict q
  · exact tyName_ok s r h
def bIsiX : FM := fun ds m => match ds with
  | [d, .ty c] => match tyNameX m d with
    | some t => match isiB t c with
      | some b => .ok (.bl b) m
      | none => .bad
    | none => .bad
  | _ => .bad
theorem on_isiX {K : PySem.W.Frag} {E : XK} : OpN K E bIsiX (rIsi K) := fun al be H m ds vs Q s r h => by
  unfold bIsiX at h
  split at h
  · rename_i d c
    split at h
    · rename_i t e
      split at h
      · rename_i b eb
        obtain ⟨v, w, rfl, rv, rw'⟩ := r.two
        rw [rd_ty.mp rw']
        exact ⟨v, _, _, _, b, rfl, .ty c, tyNameX_ok s rv e, kit_ty (isiB_ok eb), h.now s _ (rd_bl.mpr rfl)⟩
      · exact h.elim
    · exact h.elim
  · exact h.elim
theorem dss_never {X : Cx} {E : XK} {sts : List Stmt} : DSs X E sts sBad := ⟨fun _ _ _ _ _ _ ⟨_, _, _, _, _, _, h⟩ => h.elim⟩
end L3
namespace L2
open PySem PySem.Spec PyProof.Rows
theorem exg_ok {P : Program} {w : World} {H : Hp} {h : Heap} {a C : Addr} {d : Option Addr} {oe : Obj} {vs : Array Value} (he : h.get? a = some oe) (hc : oe.cls = .ref C) (hd : oe.dict = d) (hv : oe.data = .fields vs) : ObjOk P w H h a (L3.exg a C d) := by
  obtain ⟨oc, od, oda, osl⟩ := oe
  simp only at hc hd hv
  subst hc hd hv
  exact ⟨⟨vs, osl, he⟩, ⟨_, he⟩, fun h1 h2 z k => by
    obtain ⟨vs', sl', q⟩ := z
    exact ⟨vs', sl', k _ q⟩⟩
theorem hok_upd {P : Program} {w : World} {H : Hp} {h : Heap} {a : Addr} {u : HO} (x : HOk P w H h) (hn : H a = none) (new : ObjOk P w (upd H a u) h a u) : HOk P w (upd H a u) h := fun b v e => by
  by_cases hb : b = a
  · subst hb; rw [upd_same] at e; cases e; exact new
  · rw [upd_ne hb] at e
    exact (x b v e).stay (fun c v _ q => q) (fun c q => by rw [upd_ne (ne_of_none q hn)]; exact q) fun c xs q => by rw [upd_ne (ne_of_none q hn)]; exact q
section
variable {X : Cx} {pins : List (Addr × Obj)} {σ : St} {H : Hp} {sI s s' : Shared} {B : Heap}
theorem Inv.landT {a C : Addr} {d : Option Addr} {oe : Obj} {vs : Array Value} (I : Inv X pins σ H sI) (nb : ∀ b o, sI.heap.get? b = some o → b ∉ frs X.stack → B.get? b = some o) (st : B.StaysIn s'.heap) (nB : B.get? a = none) (up : sI.heap.UpToSlots s'.heap) (os : s'.os = sI.os) (ag : AllBare s'.gens)
    (na : H a = none) (nfr : a ∉ frs X.stack) (he : s'.heap.get? a = some oe) (hc : oe.cls = .ref C) (hd : oe.dict = d) (hv : oe.data = .fields vs) : Inv X pins σ (upd H a (L3.exg a C d)) s' := by
  have nf : ∀ b ∈ frs X.stack, ∀ o, sI.heap.get? b = some o → ∃ sl, s'.heap.get? b = some { o with slots := sl } := fun b hb o e => by
    obtain ⟨_, o', e', hd⟩ := I.stack.mem hb
    rw [e] at e'; cases e'
    exact up b o e hd
  have nea : ∀ b o, sI.heap.get? b = some o → b ≠ a := fun b o e z => by
    subst z
    have := nb b o e nfr
    rw [nB] at this
    cases this
  have J := I.call (ch := []) (h' := s'.heap) (g' := s'.gens) (t' := s'.toks) (d' := s'.drawn) (H' := upd H a (L3.exg a C d))
    ⟨fun b o e _ hb _ => st b o (nb b o e hb), fun b o e _ hb _ => nf b hb o e, fun b o e n _ => by rw [upd_ne (nea b o e)]; exact n, fun b o e _ => by
      by_cases hb : b ∈ frs X.stack
      · obtain ⟨sl, q⟩ := nf b hb o e
        exact ⟨_, q⟩
      · exact ⟨o, st b o (nb b o e hb)⟩, fun b xs e => by rw [upd_ne (ne_of_none e na)]; exact e, fun b o xs e => by rw [upd_ne (ne_of_none e na)]; exact e, fun b ps e => ⟨#[], by rw [upd_ne (ne_of_none e na), e]; simp⟩⟩
    (hok_upd ((I.inGround nb).kept st) na (exg_ok he hc hd hv)) ag (fun _ z => nomatch z)
  obtain ⟨a1, a2, a3, a4, a5⟩ := s'
  have e5 : a5 = sI.os := os
  subst e5
  exact J
theorem Inv.suiteT (I : Inv X pins σ H s) (a : Addr) : Inv (X.suite a (X.pn ++ pins)) [] σ H s :=
  ⟨I.ok.suite _ _, I.os, I.bare, I.base, I.loc, I.cell, I.free, I.freeC, fun p hp => I.pin p (by rw [List.append_nil] at hp; exact hp), I.hok, I.len⟩
theorem Inv.unsuiteT {a : Addr} {pn' : List (Addr × Obj)} (I : Inv (X.suite a (X.pn ++ pins)) pn' σ H s) (ok : X.Ok) : Inv X pins σ H s :=
  ⟨ok, I.os, I.bare, I.base, I.loc, I.cell, I.free, I.freeC, fun p hp => I.pin p (List.mem_append_left _ hp), I.hok, I.len⟩
end
def goneD (i : Nat) (D : Ends) : Ends := { nx := fun σ' H' => D.nx (σ'.set i none) H', rt := D.rt, bk := fun σ' H' => D.bk (σ'.set i none) H', ct := fun σ' H' => D.ct (σ'.set i none) H' }
def goneO' : Option Nat → Ends → Ends
  | some i, D => goneD i D
  | none, D => D
def setO : Option Nat → Addr → St → St
  | some i, a, σ => σ.set i (some (.ref a))
  | none, _, σ => σ
def wTr (K : PySem.W.Frag) (Wout : WX) (D : Ends) : List (Value × Option Nat × TS) → WX
  | [] => Wout
  | (c, i, ts) :: l => fun cls d σ H => ∃ b, PySem.W.exmOne K cls c = some b ∧ (b = true → (∃ C, cls = .ref C ∧ ∀ a, H a = none → ts (goneO' i D) (setO i a σ) (upd H a (L3.exg a C d))) ∨ (i = none ∧ ts D σ H)) ∧ (b = false → wTr K Wout D l cls d σ H)
inductive HdsT (X : Cx) : List ExceptHandler → List (Value × Option Nat × TS) → Prop
  | nil : HdsT X [] []
  | cons {x n : Str} {c : Value} {i : Nat} {ts : TS} {b₀ : Stmt} {suite : List Stmt} {np pos' : Pos} {hds : List ExceptHandler} {l : List (Value × Option Nat × TS)} (hi : X.N[i]? = some n) (hln : X.env.kindOf n = some .local) (hc : Names X x c)
      (hsu : ∀ (a : Addr) (pn : List (Addr × Obj)), PSs (X.suite a pn) (b₀ :: suite) ts) (r : HdsT X hds l) :
      HdsT X (.ExceptHandler (some (.Name x np)) (some n) (b₀ :: suite) pos' :: hds) ((c, some i, ts) :: l)
  | consN {x : Str} {c : Value} {ts : TS} {b₀ : Stmt} {suite : List Stmt} {np pos' : Pos} {hds : List ExceptHandler} {l : List (Value × Option Nat × TS)} (hc : Names X x c)
      (hsu : ∀ (a : Addr) (pn : List (Addr × Obj)), PSs (X.suite a pn) (b₀ :: suite) ts) (r : HdsT X hds l) :
      HdsT X (.ExceptHandler (some (.Name x np)) none (b₀ :: suite) pos' :: hds) ((c, none, ts) :: l)
section
variable {X : Cx} {body : List Stmt} {h₀ : ExceptHandler} {hds : List ExceptHandler} {l : List (Value × Option Nat × TS)} {pos : Pos} {tb : WX → TS} {Wout : WX}
theorem ps_tryT (hs : X.stack = X.env :: X.outer) (hf : X.env.frame = some X.env.locals) (hN : X.N.Nodup) (tk : Takes X Wout)
    (hb : ∀ (W : WX) (pn : List (Addr × Obj)) (xe : Value → Shared → Prop), Takes (X.tr pn xe) W → PassesOwn (model X.prog X.w) X.A X.env xe → PSs (X.tr pn xe) body (tb W))
    (hh : HdsT X (h₀ :: hds) l) : PS X (.Try body (h₀ :: hds) [] [] pos) (fun D σ H => tb (wTr X.K Wout D l) D σ H) := by
  refine ⟨fun pins s σ H D I h => ?_⟩
  have ok := I.ok
  have hfr : X.A.frames = some (X.env :: X.outer) := by rw [ok.frames, hs]
  refine wpAny_Try_except ?_
  refine wpAny_mono ((hb (wTr X.K Wout D l) (X.pn ++ pins) (fun e s₁ => wpAny (model X.prog X.w) X.A (noteFrame e X.env) (fun _ s₂ => wpAny (model X.prog X.w) X.A (setFlight e none) (fun _ s₃ =>
    wpAny (model X.prog X.w) X.A (handleBy e X.env (h₀ :: hds)) (SP X pins D) X.xe s₃) X.xe s₂) X.xe s₁) (fun u s' xx => ?_) PassesOwn.looking).run [] s σ H D (I.toTry _) h) (fun f s1 hsp => ?_) (fun e s1 he => he)
  · -- the catch
    obtain ⟨a, B, sI, pins', σ', H', cls, d, rfl, J', nb, up, sky, na, os, ag, w⟩ := xx
    have J : Inv X pins σ' H' sI := J'.ofTry ok
    have sky' : Sky B (X.env :: X.outer) a (Zc cls d) X.env.locals s'.heap := by rw [← hs]; exact sky
    show wpAny (model X.prog X.w) X.A (noteFrame (.ref a) X.env) _ _ _
    refine Sky.land Zc.steady hfr hf sky' fun h3 fl3 up3 => ?_
    have J3 : Inv X pins σ' H' { s' with heap := h3 } := J.landed nb fl3.1 (up.trans up3) os ag
    obtain ⟨oe3, vs3, he3, hz3, hd3⟩ := fl3.there
    have notFr : ∀ {h : Heap} {o : Obj} {vs : Array Value}, h.FunFrames B (X.env :: X.outer) → h.get? a = some o → o.data = .fields vs → a ∉ frs (X.env :: X.outer) := fun {h o vs} ff e dd hm => by
      obtain ⟨_, o', e', hnf⟩ := ff.mem hm
      rw [e] at e'; cases e'
      exact hnf _ dd
    have nfr := notFr fl3.2.2.1 he3 hd3
    have go : ∀ {hds' : List ExceptHandler} {l' : List (Value × Option Nat × TS)}, HdsT X hds' l' → wTr X.K Wout D l' cls d σ' H' →
        wpAny (model X.prog X.w) X.A (handleBy (.ref a) X.env hds') (SP X pins D) X.xe { s' with heap := h3 } := by
      intro hds' l' hk
      induction hk with
      | nil =>
        intro w
        refine wpAny_handleBy_nil ?_
        obtain ⟨k1, k2, k3, oe, vs, T, oT, ts', he, hz, hd, h1, hr⟩ := id fl3
        unfold PySem.passOn
        refine wpAny_bind (wpAny_field he hd h1 ?_)
        rw [if_neg (show ¬ ((Value.ref T == Value.none) = true) from by simp)]
        have fin : wpAny (model X.prog X.w) X.A (setFlight (.ref a) X.env.frame) (fun _ s4 => wpAny (model X.prog X.w) X.A (throw (.ref a) : Sem Flow) (SP X pins D) X.xe s4) X.xe { s' with heap := h3 } := by
          rw [hf]
          refine HandSPX.setFlight_upZ fl3 fun h4 hh4 up4 => wpAny_throw (tk _ _ ?_)
          exact ⟨a, B, sI, pins, σ', H', cls, d, rfl, J, nb, (up.trans up3).trans up4, .inr (.inr (by rw [hs]; exact hh4)), na, os, ag, w⟩
        first
          | exact wpAny_bind (wpAny_pure (wpAny_bind fin))
          | exact wpAny_bind fin
      | @cons x n c i ts b₀ suite np pos' hds2 l2 hi hln hc hsu r ih =>
        intro w
        have hloc : Loc X.env.scope n := .inl hln
        obtain ⟨b, hb1, hyes, hno⟩ := w
        refine wpAny_handleBy_cons (codeAny_handlers_test ?_) (by intro q; cases q)
        have LT : PySem.W.Looks (model X.prog X.w) h3 (typeOf (.ref a)) cls := fun A Q E s k q => wpAny_typeOf_ref (k _ _ he3) (by rw [hz3.1]; exact q)
        have LM := PySem.W.exm_one (M := model X.prog X.w) (J3.kIn) LT hb1
        have S3 := J3.suiteT a
        have test : ∀ {Q : Value → Shared → Prop} {E : Value → Shared → Prop}, Q c { s' with heap := h3 } → wpAny (model X.prog X.w) (X.A.mark (some (.ref a))) (eval (.Name x np) X.env) Q E { s' with heap := h3 } := fun {Q E} q => by
          obtain ⟨hg, hdbg, hm | ⟨hm, hv, hnn⟩⟩ := hc
          · exact ld_glob (X := X.suite a (X.pn ++ pins)) S3 hg hm q hdbg
          · exact ld_blt (X := X.suite a (X.pn ++ pins)) S3 hg hm hv q hnn hdbg
        refine test (LM.here ?_)
        cases b with
        | true =>
          obtain ⟨C, ec, hy2⟩ := (hyes rfl).resolve_right (fun z => nomatch z.1)
          subst ec
          refine codeAny_handlers_suite_as ?_
          refine HandSPX.lands_againZ fl3 fun h4 fl4 up4 => ?_
          obtain ⟨oe4, vs4, he4, hz4, hd4⟩ := fl4.there
          have J4 : Inv X pins σ' (upd H' a (L3.exg a C d)) { s' with heap := h4 } := J.landT nb fl4.1 fl4.2.1 ((up.trans up3).trans up4) os ag na (by rw [hs]; exact nfr) he4 hz4.1 hz4.2 hd4
          have S4 := J4.suiteT a
          refine store_ok (X := X.suite a (X.pn ++ pins)) (v := .ref a) S4 hN hi hloc rfl (fun s5 S5 => ?_) (.inr hln)
          refine wpAny_mono ((hsu a (X.pn ++ pins)).run [] s5 _ _ _ S5 (hy2 a na)) (fun f s6 hsp => ?_) (fun _ _ z => False.elim z)
          have end_ : ∀ {σ6 : St} {H6 : Hp} {Q : Shared → Prop}, Inv (X.suite a (X.pn ++ pins)) [] σ6 H6 s6 → (∀ s7, Inv X pins (σ6.set i none) H6 s7 → Q s7) →
              wpAny (model X.prog X.w) X.A (do bindName X.env n .none; unbindBehindTheSuite X.env n pos') (fun _ s7 => Q s7) X.xe s6 := fun {σ6 H6 Q} S6 hq => gone_ok (S6.unsuiteT ok) hN hi hln hq
          cases f with
          | next =>
            obtain ⟨σ6, H6, S6, q6⟩ := hsp
            exact end_ S6 fun s7 J7 => ⟨_, _, J7, q6⟩
          | brk =>
            obtain ⟨σ6, H6, S6, q6⟩ := hsp
            exact end_ S6 fun s7 J7 => ⟨_, _, J7, q6⟩
          | cont =>
            obtain ⟨σ6, H6, S6, q6⟩ := hsp
            exact end_ S6 fun s7 J7 => ⟨_, _, J7, q6⟩
          | ret u =>
            obtain ⟨v6, σ6, H6, S6, r6, q6⟩ := hsp
            exact end_ S6 fun s7 J7 => ⟨_, _, _, J7, r6, q6⟩
        | false =>
          show wpAny _ X.A (handleBy (.ref a) X.env hds2) _ _ _
          exact ih (hno rfl)
      | @consN x c ts b₀ suite np pos' hds2 l2 hc hsu r ih =>
        intro w
        obtain ⟨b, hb1, hyes, hno⟩ := w
        refine wpAny_handleBy_cons (codeAny_handlers_test ?_) (by intro q; cases q)
        have LT : PySem.W.Looks (model X.prog X.w) h3 (typeOf (.ref a)) cls := fun A Q E s k q => wpAny_typeOf_ref (k _ _ he3) (by rw [hz3.1]; exact q)
        have LM := PySem.W.exm_one (M := model X.prog X.w) (J3.kIn) LT hb1
        have S3 := J3.suiteT a
        have test : ∀ {Q : Value → Shared → Prop} {E : Value → Shared → Prop}, Q c { s' with heap := h3 } → wpAny (model X.prog X.w) (X.A.mark (some (.ref a))) (eval (.Name x np) X.env) Q E { s' with heap := h3 } := fun {Q E} q => by
          obtain ⟨hg, hdbg, hm | ⟨hm, hv, hnn⟩⟩ := hc
          · exact ld_glob (X := X.suite a (X.pn ++ pins)) S3 hg hm q hdbg
          · exact ld_blt (X := X.suite a (X.pn ++ pins)) S3 hg hm hv q hnn hdbg
        refine test (LM.here ?_)
        cases b with
        | true =>
          rcases hyes rfl with ⟨C, ec, hy2⟩ | ⟨_, hy2⟩
          · subst ec
            refine codeAny_handlers_suite ?_
            refine HandSPX.lands_againZ fl3 fun h4 fl4 up4 => ?_
            obtain ⟨oe4, vs4, he4, hz4, hd4⟩ := fl4.there
            have J4 : Inv X pins σ' (upd H' a (L3.exg a C d)) { s' with heap := h4 } := J.landT nb fl4.1 fl4.2.1 ((up.trans up3).trans up4) os ag na (by rw [hs]; exact nfr) he4 hz4.1 hz4.2 hd4
            have S4 := J4.suiteT a
            refine wpAny_mono ((hsu a (X.pn ++ pins)).run [] _ _ _ _ S4 (hy2 a na)) (fun f s6 hsp => ?_) (fun _ _ z => False.elim z)
            cases f with
            | next =>
              obtain ⟨σ6, H6, S6, q6⟩ := hsp
              exact ⟨_, _, S6.unsuiteT ok, q6⟩
            | brk =>
              obtain ⟨σ6, H6, S6, q6⟩ := hsp
              exact ⟨_, _, S6.unsuiteT ok, q6⟩
            | cont =>
              obtain ⟨σ6, H6, S6, q6⟩ := hsp
              exact ⟨_, _, S6.unsuiteT ok, q6⟩
            | ret u =>
              obtain ⟨v6, σ6, H6, S6, r6, q6⟩ := hsp
              exact ⟨_, _, _, S6.unsuiteT ok, r6, q6⟩
          · refine codeAny_handlers_suite ?_
            refine HandSPX.lands_againZ fl3 fun h4 fl4 up4 => ?_
            have J4 : Inv X pins σ' H' { s' with heap := h4 } := J.landed nb fl4.1 ((up.trans up3).trans up4) os ag
            have S4 := J4.suiteT a
            refine wpAny_mono ((hsu a (X.pn ++ pins)).run [] _ _ _ _ S4 hy2) (fun f s6 hsp => ?_) (fun _ _ z => False.elim z)
            cases f with
            | next =>
              obtain ⟨σ6, H6, S6, q6⟩ := hsp
              exact ⟨_, _, S6.unsuiteT ok, q6⟩
            | brk =>
              obtain ⟨σ6, H6, S6, q6⟩ := hsp
              exact ⟨_, _, S6.unsuiteT ok, q6⟩
            | cont =>
              obtain ⟨σ6, H6, S6, q6⟩ := hsp
              exact ⟨_, _, S6.unsuiteT ok, q6⟩
            | ret u =>
              obtain ⟨v6, σ6, H6, S6, r6, q6⟩ := hsp
              exact ⟨_, _, _, S6.unsuiteT ok, r6, q6⟩
        | false =>
          show wpAny _ X.A (handleBy (.ref a) X.env hds2) _ _ _
          exact ih (hno rfl)
    exact go hh w
  · cases f with
    | next =>
      obtain ⟨σ', H', J', q⟩ := hsp
      exact wpAny_execs_nil ⟨σ', H', J'.ofTry ok, q⟩
    | brk =>
      obtain ⟨σ', H', J', q⟩ := hsp
      exact ⟨σ', H', J'.ofTry ok, q⟩
    | cont =>
      obtain ⟨σ', H', J', q⟩ := hsp
      exact ⟨σ', H', J'.ofTry ok, q⟩
    | ret u =>
      obtain ⟨v, σ', H', J', r, q⟩ := hsp
      exact ⟨v, σ', H', J'.ofTry ok, r, q⟩
end
end L2
namespace L3
open PySem PySem.Spec L2
open PyProof.Rows hiding St
def tGσ (K : PySem.W.Frag) (E : St → XK) (g : GE) : TE := fun σ H Q => tG K (E σ) g σ H Q
def tGsσ (K : PySem.W.Frag) (E : St → XK) (g : GA) : TA := fun σ H Q => tGs K (E σ) g σ H Q
def tSσ (K : PySem.W.Frag) (E : St → XK) (g : GS) : TS := fun D σ H => tS K (E σ) g D σ H
abbrev DEσ (X : Cx) (E : St → XK) (e : Expr) (g : GE) : Prop := PE X e (tGσ X.K E g)
abbrev DAσ (X : Cx) (E : St → XK) (es : List Expr) (g : GA) : Prop := L2.PA X es (tGsσ X.K E g)
abbrev DSσ (X : Cx) (E : St → XK) (s : Stmt) (g : GS) : Prop := PS X s (tSσ X.K E g)
abbrev DSsσ (X : Cx) (E : St → XK) (s : List Stmt) (g : GS) : Prop := PSs X s (tSσ X.K E g)
section
variable {X : Cx} {E : St → XK} {CX : CXT} {e : Expr} {es : List Expr} {g ge : GE} {gs : GA} {k n : Nat} {x : Str} {F : FM} {p pos : Pos}
theorem de_σ (h : ∀ E : XK, DE X E e g) : DEσ X E e g := ⟨fun pins s σ H Q I q => (h (E σ)).run pins s σ H Q I q⟩
theorem da_σ (h : ∀ E : XK, DA X E es gs) : DAσ X E es gs := ⟨fun pos pins s σ H Q I q => (h (E σ)).run pos pins s σ H Q I q⟩
theorem de_callσ (G : Cal X.prog X.w X.K X.mg X.base CX k x n F) (hr : Room k X.A) (hx : ∀ σ, PassesAt CX X σ (E σ)) (hg : Gl X x) (ha : DAσ X E (e :: es) gs) (hdb : (x == ("__debug__" : Str)) = false := by decide)
    (he : starEach (e :: es) X.env = (false, eval e X.env) :: starEach es X.env := by rfl) (hpl : (backTo pos (starEach es X.env)).any (·.1) = false := by rfl) : DEσ X E (.Call (.Name x p) (e :: es) [] pos) (gCall n F gs) := by
  obtain ⟨f, fd, ps, hf, hm, hk, hb⟩ := G.ex
  exact peImp (pe_callSD hf hr hg hm hk hb .nil hx ha hdb he hpl) fun σ H Q h => call_imp (X := X) (E := E σ) σ H Q h
theorem da_nilσ : DAσ X E [] aNil := da_σ fun _ => da_nil
theorem da_consσ (ha : DEσ X E e g) (hr : DAσ X E es gs) (hs : starEach (e :: es) X.env = (false, eval e X.env) :: starEach es X.env := by rfl) : DAσ X E (e :: es) (aCons g gs) :=
  paImp (pa_cons ha hr hs) fun σ H Q ⟨al, be, m, en, s, l, h⟩ => ⟨al, be, m, en, s, l, Post.bind h fun d al1 H1 m1 c1 s1 h1 v rv => ⟨al1, be, m1, en, s1, l.chg c1, Post.bind h1 fun ds al2 H2 m2 c2 s2 h2 vs rvs => h2 al2 H2 .refl s2 _ (.cons (c2.rd rv) rvs)⟩⟩
theorem ds_exprσ (he : DEσ X E e ge) (hs : swapsWith e none pos.line X.env = pure false := by rfl) : DSσ X E (.Expr e pos) (sExpr ge) :=
  psImp (ps_expr he hs) fun D σ H ⟨al, be, m, en, s, l, h⟩ => ⟨al, be, m, en, s, l, PostS.ofOut h fun d al1 H1 m1 c1 s1 h1 v rv => h1 al1 H1 σ .refl s1 (l.chg c1)⟩
theorem ds_setσ (i : Nat) {y : Str} {pos' : Pos} (hN : X.N.Nodup) (he : DEσ X E e ge) (hi : X.N[i]? = some y := by rfl) (hx : Loc X.env.scope y := by first | exact .inl rfl | exact .inr rfl)
    (hs : swapsWith e (some (.Name y pos')) pos.line X.env = pure false := by rfl) (hf : X.fn y = true ∨ X.env.scope.names.lookup y = some .local := by first | exact .inl rfl | exact .inr rfl | assumption) : DSσ X E (.Assign [.Name y pos'] e pos) (sAsg ge (nName i)) :=
  psImp (ps_set hN hi hx he hs hf) fun D σ H h => asg_imp (X := X) (E := E σ) (ge := ge) (te := tG X.K (E σ) ge) (ix := [i]) (fun v σ H Q ⟨al, be, m, en, d, s, l, r, h⟩ => h.now s _ (l.set i r) ⟨by simp, fun j hj => List.getElem?_set_ne (fun e => hj (by simp [e]))⟩) D σ H h
theorem dss_oneσ {st : Stmt} {gst : GS} (h : DSσ X E st gst) : DSsσ X E [st] gst := pss_one h
end
def goneO (i : Nat) : SO → SO
  | .nx en m => .nx (en.set i none) m
  | .bk en m => .bk (en.set i none) m
  | .ct en m => .ct (en.set i none) m
  | .rt d m => .rt d m
  | _ => .bad
section
variable {K : PySem.W.Frag} {al be : List Addr} {H : Hp} {σ : St} {en : Sl}
theorem SL.unset (s : SL K al be H σ en) (i : Nat) : SL K al be H (σ.set i none) (en.set i none) := by
  refine ⟨by simp [s.len], fun j e h => ?_⟩
  by_cases hj : j = i
  · subst hj
    by_cases hl : j < en.length
    · rw [List.getElem?_set_self hl] at h; cases h
    · rw [List.getElem?_eq_none (by rw [List.length_set]; omega)] at h; cases h
  · rw [List.getElem?_set_ne (fun q => hj q.symm)] at h ⊢
    exact s.get j e h
end
inductive HdL (X : Cx) (sub : Str → Str → Option Bool) : List ExceptHandler → List (Str × Nat × GS) → Prop
  | nil : HdL X sub [] []
  | cons {x n : Str} {cn : Str} {i : Nat} {gs : GS} {b₀ : Stmt} {suite : List Stmt} {np pos' : Pos} {hds : List ExceptHandler} {l : List (Str × Nat × GS)} (hi : X.N[i]? = some n) (hln : X.env.kindOf n = some .local) (hc : Names X x (.ref (He.ga X.K cn)))
      (hsub : ∀ c b, sub c cn = some b → PySem.W.exmOne X.K (.ref (He.ga X.K c)) (.ref (He.ga X.K cn)) = some b)
      (hsu : ∀ (a : Addr) (pn : List (Addr × Obj)), DSs (X.suite a pn) E0 (b₀ :: suite) gs) (r : HdL X sub hds l) :
      HdL X sub (.ExceptHandler (some (.Name x np)) (some n) (b₀ :: suite) pos' :: hds) ((cn, i, gs) :: l)
def clT (K : PySem.W.Frag) (l : List (Str × Nat × GS)) : List (Value × Option Nat × TS) := l.map fun q => (.ref (He.ga K q.1), some q.2.1, tS K E0 q.2.2)
section
variable {X : Cx} {E : XK} {sub : Str → Str → Option Bool} {body : List Stmt} {h₀ : ExceptHandler} {hds : List ExceptHandler} {cl : List (Str × Nat × GS)} {gb : GS} {pos : Pos}
theorem HdL.toT : ∀ {hds : List ExceptHandler} {cl : List (Str × Nat × GS)}, HdL X sub hds cl → HdsT X hds (clT X.K cl)
  | _, _, .nil => .nil
  | _, _, .cons hi hln hc hsub hsu r => .cons hi hln hc hsu r.toT
end
end L3
namespace L3
open PySem PySem.Spec L2
open PyProof.Rows hiding St
structure PeC (K : PySem.W.Frag) (C : Addr) : Prop where
  ga : PySem.W.specialIn K (.ref C) "__getattribute__" = some (some (.builtin "type.__getattribute__"))
  rd : PySem.W.readsIn K C (.type "type") = true
  at_ : PySem.W.findCls K (.ref C) (.type "type") "__init__" = some (.val (.builtin "ValueError.__init__"))
def spE (K : PySem.W.Frag) (f : Str) : Sp := fun vs H Q E => ∃ (a C : Addr) (y : V), vs = [.ref a, y] ∧ OexC K C ∧ PySem.W.findIn K (.ref C) f = some none ∧ H a = some (exo a C none) ∧
  ∀ dx, H dx = none → dx ≠ a → Q .non (upd (upd H dx (exd dx [(f, y)])) a (exo a C (some dx)))
section
variable {X : Cx} {E : XK} {o e : Expr} {es : List Expr} {ta : TA} {f : Str} {p p' p1 p2 pos : Pos}
theorem pe_peinit {pl : Sem Bool} {pe : Str} {Cp : Addr} (V : PeC X.K Cp) (hg : Gl X pe) (hm : X.mg pe = some (.ref Cp)) (ha : L2.PA X (e :: es) ta) (hdb : (pe == ("__debug__" : Str)) = false := by decide)
    (hc : eval (.Call (.Attribute (.Name pe p1) "__init__" p2) (e :: es) [] pos) X.env = (do
      let ov ← eval (.Name pe p1) X.env
      standAt p2.atName
      let (f, first) ← holding [ov] (getMethod ov "__init__" pl)
      callWith pos f first (backTo pos (starEach (e :: es) X.env)) (backToKw pos (keywordEach [] X.env))) := by rfl)
    (he : starEach (e :: es) X.env = (false, eval e X.env) :: starEach es X.env := by rfl) (hpl : (backTo pos (starEach es X.env)).any (·.1) = false := by rfl) :
    PE X (.Call (.Attribute (.Name pe p1) "__init__" p2) (e :: es) [] pos) (tVeI X.K ta) := by
  refine ⟨fun pins s σ H Q I h => ?_⟩
  refine PySem.W.methodCall_KW (ld_glob I hg hm ?_ hdb) hc
  refine PySem.W.method_cls I.kIn V.ga (PySem.W.cls_value I.kIn V.rd V.at_ (by decide +kernel) ?_)
  show wpAny _ _ (callWith pos (Value.builtin "ValueError.__init__") [] (backTo pos (starEach (e :: es) X.env)) []) _ _ _
  refine PyProof.Rows.callWith_method1 (thn (ha.run pos pins _ σ H _ (I.tok _) h) fun us s1 ⟨vs, H1, I1, r1, a, C, ws, ev, hl, T, ea, q⟩ => ?_) he hpl
  subst ev
  cases r1 with
  | @cons _ u0 _ ur ra rw' =>
    obtain rfl : u0 = Value.ref a := ra
    have hlen : ur.length ≤ sizeLine := by
      rw [← Paired.length rw', sizeLine_eq]
      omega
    exact oinit_ok T I1 ea hlen fun s' J => ⟨.non, H1, J, rfl, q⟩
end
section
variable {CX : CXT} {P : Program} {w : World} {K : PySem.W.Frag} {mg : Str → Option Value} {base : Heap} {k : Nat} {f : Addr} {fd : FuncData} {x qual par fld msg : Str} {params : Arguments} {scope : Scope} {dvs : List V} {kws : List (Str × V)} {st1 st2 : Stmt}
theorem fn_init (T : FunD K x qual params [st1, st2] scope dvs kws f fd) (S : FnScope ["self", par] ["self", par] scope)
    (h1 : ∀ cdv A outer s H E, PS (cxOf CX P w K mg base ["self", par] qual scope f cdv A outer s H E) st1 (tDrop (tVeI K (tCons (tVar 0) (tCons (tC (.str msg)) tNil)))))
    (h2 : ∀ cdv A outer s H E, PS (cxOf CX P w K mg base ["self", par] qual scope f cdv A outer s H E) st2 (tOst K fld (tVar 0) (tVar 1))) : FnOk P w K mg base CX (k + 1) f fd ["self", par] (spE K fld) := by
  refine T.ok S (fun vs H Q E ⟨a, C, y, e, _⟩ => by rw [e]; rfl) fun cdv A outer s H vs Q E hr ⟨a, C, y, e, TC, hno, ha, hq⟩ => ⟨_, pss_cons (h1 cdv A outer s H E) (pss_one (h2 cdv A outer s H E)), ?_⟩
  subst e
  refine ⟨.ref a, rfl, a, C, [.str msg], rfl, by simp, TC, ha, ?_⟩
  exact ⟨y, rfl, .ref a, rfl, a, C, rfl, TC, hno, .inl ⟨ha, fun dx hd ne => hq dx hd ne⟩⟩
end
structure CalE (P : Program) (w : World) (K : PySem.W.Frag) (mg : Str → Option Value) (base : Heap) (CX : CXT) (k : Nat) (c f : Str) : Prop where
  ex : ∃ (fI : Addr) (fd : FuncData) (ps : List Str), FnOk P w K mg base CX k fI fd ps (spE K f) ∧ OexC K (He.ga K c) ∧ PySem.W.findIn K (.ref (He.ga K c)) "__init__" = some (some (.ref fI)) ∧ PySem.W.typeIn K (.ref fI) = some (.type "function") ∧
    PySem.W.findIn K (.ref (He.ga K c)) f = some none ∧ mg c = some (.ref (He.ga K c)) ∧ Binds K fd ps []
def sRaise (c f : Str) (ge : GE) : GS := fun en m => SO.ofOut (ge en m) fun d m1 => .ex ⟨c, [f], [d]⟩ m1
section
variable {X : Cx} {E : XK} {CX : CXT} {e : Expr} {ge : GE} {c f : Str} {k : Nat} {p pos pos' : Pos}
theorem ds_raise (G : CalE X.prog X.w X.K X.mg X.base CX k c f) (hc : X.calm = true) (tk : Takes X fun cls d _ H => E cls d H) (hr : Room (k + 1) X.A) (hx : Passes CX X (fun _ _ _ => False)) (hg : Gl X c) (he : DE X E e ge) (hdb : (c == ("__debug__" : Str)) = false := by decide) (hke : c ≠ "KeyError" := by decide)
    (hst : starEach (e :: []) X.env = (false, eval e X.env) :: starEach [] X.env := by rfl) (hpl : (backTo pos (starEach [] X.env)).any (·.1) = false := by rfl) : DS X E (.Raise (some (.Call (.Name c p) [e] [] pos)) none pos') (sRaise c f ge) := by
  obtain ⟨fI, fd, ps, F, T, iC, tI, hno, hm, hb⟩ := G.ex
  refine psImp (ps_raise hc tk (pmk_oex T iC tI F hr hb .nil hx hg hm (pa_cons he pa_nil hst) hdb hst hpl)) fun D σ H ⟨al, be, m, en, s, l, h⟩ => ?_
  refine ⟨al, be, m, en, s, l, PostS.ofOut h fun d al1 H1 m1 c1 s1 h1 v rv => ⟨by simp, fun a ha => ?_⟩⟩
  refine ⟨a, _, v, rfl, T, hno, upd_same, fun dx hd ne => ⟨rfl, dx, [(f, v)], upd_same, by rw [upd_ne ne, upd_same], by rw [upd_ne ne] at hd; exact hd, ?_⟩⟩
  rw [upd_ne ne] at hd
  have eH : upd (del (upd (upd (upd H1 a (exo a (He.ga X.K c) none)) dx (exd dx [(f, v)])) a (exo a (He.ga X.K c) (some dx))) a) dx (.xd [(f, v)]) = upd H1 dx (.xd [(f, v)]) := by
    funext b
    by_cases hb : b = dx
    · subst hb; rw [upd_same, upd_same]
    · rw [upd_ne hb, upd_ne hb]
      by_cases ha' : b = a
      · subst ha'; rw [del_same, ha]
      · rw [del_ne ha', upd_ne ha', upd_ne hb, upd_ne ha']
  rw [eH]
  obtain ⟨n1, n2⟩ := s1.notNew hd
  have chg : Chg al1 H1 al1 (upd H1 dx (.xd [(f, v)])) := Chg.ext (ext_upd hd)
  exact h1 al1 _ _ _ chg (s1.upd hd) (RX.mk hke ⟨rfl, [(f, v)], ⟨upd_same, n1, n2⟩, rfl, RDs.cons (chg.rd rv) RDs.nil⟩)
end
end L3
namespace PySem.W
open PySem PySem.Spec PySem.Calls PyProof.Rows
section
variable {prog : Program} {w : World} {A : Around} {E : Value → Shared → Prop} {s : Shared} {K : Frag} {x D : Addr} {ox : Obj} {od : Option Obj}
end
end PySem.W
namespace L2
open PySem PySem.Spec PyProof.Rows
section
variable {X : Cx} {pins : List (Addr × Obj)} {σ : St} {H : Hp} {s : Shared}
end
end L2
namespace L3
open PySem PySem.Spec L2
open PyProof.Rows hiding St
structure ErrF (K : PySem.W.Frag) (sub : Str → Str → Option Bool) : Prop where
  ec : ∀ c d b, sub c d = some b → ExcC K (He.ga K c) ∧ PySem.W.kitOne K (.ref (He.ga K c)) (.ref (He.ga K d)) = some b
  nt : ∀ c d b, sub c d = some b → PySem.W.kitOne K (.type "NoneType") (.ref (He.ga K d)) = some false
section
variable {X : Cx} {E : XK} {e : Expr} {g : GE} {d f : Str} {p p2 pos : Pos} {sub : Str → Str → Option Bool} {ok : Str → Str → Bool}
end
end L3
namespace He
open PySem PySem.Spec PyProof.Rows L2
theorem oexB_ok {K : PySem.W.Frag} {C : Addr} (h : oexB K C = true) : OexC K C := by
  obtain ⟨q, h⟩ := ba h
  obtain ⟨h1, h⟩ := ba h
  obtain ⟨h2, h⟩ := ba h
  obtain ⟨h3, h4⟩ := ba h
  refine ⟨?_, eqO_ok h1, of_decide_eq_true h2, of_decide_eq_true h3, h4⟩
  split at q
  · rename_i dd cd sl ho
    split at q
    · rename_i C' bm k0 k1 k2 k3 n k5 hm hs
      simp only [Bool.and_eq_true, beq_iff_eq, Bool.not_eq_true'] at q
      obtain ⟨⟨rfl, rfl⟩, ⟨hdel, hdict⟩, ht⟩ := q
      obtain ⟨nm, bs, mro, ns, qn, hd, sn, sub, ab, col, del⟩ := cd
      dsimp only at hm hdel hdict
      subst hm hdel hdict
      have hsl : sl = #[k0, k1, k2, k3, some (.builtin "ValueError.__new__"), k5] := by
        obtain ⟨l⟩ := sl
        simp only at hs
        rw [hs]
      subst hsl
      exact ⟨nm, qn, ns, bs, bm, sn, sub, ab, col, dd, k0, k1, k2, k3, k5, ho, ht⟩
    · cases q
  · cases q
theorem excB_ok {K : PySem.W.Frag} {D : Addr} (h : excB K D = true) : ExcC K D ∧ XfC K D := by
  obtain ⟨h1, h⟩ := ba h
  obtain ⟨a1, a2⟩ := ba h1
  obtain ⟨h2, h⟩ := ba h
  obtain ⟨a3, a4⟩ := ba h2
  obtain ⟨h3, h4⟩ := ba h
  obtain ⟨a5, a6⟩ := ba h3
  obtain ⟨a7, a8⟩ := ba h4
  exact ⟨⟨eqO_ok a1, eqO_ok a2, of_decide_eq_true a3, a4, eqO_ok a5, eqO_ok a6, of_decide_eq_true a7, of_decide_eq_true a8⟩, ⟨eqO_ok a1, eqO_ok a2, of_decide_eq_true a3, a4⟩⟩
theorem peB_ok {K : PySem.W.Frag} {C : Addr} (h : peB K C = true) : L3.PeC K C := by
  obtain ⟨h1, h⟩ := ba h
  obtain ⟨h2, h3⟩ := ba h
  refine ⟨eqO_ok h1, h2, ?_⟩
  split at h3
  · rename_i n e
    rw [e, of_decide_eq_true h3]
  · cases h3
end He
namespace L3
open PySem PySem.Spec L2
open PyProof.Rows hiding St
def subL : List (Str × Str × Bool) → Str → Str → Option Bool
  | [], _, _ => none
  | (x, y, b) :: l, c, d => if c = x ∧ d = y then some b else subL l c d
theorem subL_mem {c d : Str} {b : Bool} : ∀ {l : List (Str × Str × Bool)}, subL l c d = some b → (c, d, b) ∈ l
  | [], h => by cases h
  | (x, y, b') :: l, h => by
    unfold subL at h
    split at h
    · rename_i q
      obtain ⟨rfl, rfl⟩ := q
      cases h
      exact List.mem_cons_self
    · exact List.mem_cons_of_mem _ (subL_mem h)
section
variable {K : PySem.W.Frag} {pe : Str} {cs : List (Str × Str)} {ks : List (Str × Str × Bool)}
theorem err_pe (h : He.errB pe cs ks K = true) : PeC K (He.ga K pe) := He.peB_ok (He.ba h).1
theorem err_cls (h : He.errB pe cs ks K = true) {c f : Str} (hm : (c, f) ∈ cs) : OexC K (He.ga K c) ∧ PySem.W.findIn K (.ref (He.ga K c)) "__init__" = some (some (.ref (He.ma K (He.ga K c) "__init__"))) ∧ PySem.W.typeIn K (.ref (He.ma K (He.ga K c) "__init__")) = some (.type "function") ∧ PySem.W.findIn K (.ref (He.ga K c)) f = some none := by
  have h1 := List.all_eq_true.mp (He.ba (He.ba h).2).1 _ hm
  obtain ⟨a1, a2⟩ := He.ba h1
  obtain ⟨a3, a4⟩ := He.ba a2
  obtain ⟨a5, a6⟩ := He.ba a3
  exact ⟨He.oexB_ok a1, He.eqO_ok a5, of_decide_eq_true a6, He.eqO_ok a4⟩
theorem err_kit (h : He.errB pe cs ks K = true) {c d : Str} {b : Bool} (hm : subL ks c d = some b) : (ExcC K (He.ga K c) ∧ XfC K (He.ga K c)) ∧ PySem.W.kitOne K (.ref (He.ga K c)) (.ref (He.ga K d)) = some b ∧ PySem.W.exmOne K (.ref (He.ga K c)) (.ref (He.ga K d)) = some b ∧ PySem.W.kitOne K (.type "NoneType") (.ref (He.ga K d)) = some false := by
  have h1 := List.all_eq_true.mp (He.ba (He.ba h).2).2 _ (subL_mem hm)
  obtain ⟨a1, a2⟩ := He.ba h1
  obtain ⟨a3, a4⟩ := He.ba a2
  obtain ⟨a5, a6⟩ := He.ba a3
  exact ⟨He.excB_ok a1, of_decide_eq_true a5, of_decide_eq_true a6, of_decide_eq_true a4⟩
theorem err_exm (h : He.errB pe cs ks K = true) (d : Str) : ∀ c b, subL ks c d = some b → PySem.W.exmOne K (.ref (He.ga K c)) (.ref (He.ga K d)) = some b := fun c b e => (err_kit h e).2.2.1
end
end L3
namespace He
open PySem PySem.Spec PyProof.Rows L2
section
variable {fa : List Fa} {fn : List DefD} {ex : PySem.W.Frag → Bool} {K : PySem.W.Frag}
theorem SaysErr.d (c : SaysErr fa fn ex K) : SaysD fa fn K := congrArg (fun z : AlErr => z.1) c
theorem SaysErr.x (c : SaysErr fa fn ex K) : ex K = true := congrArg (fun z : AlErr => z.2) c
end
end He
namespace L3
open PySem PySem.Spec L2
open PyProof.Rows hiding St
theorem pxE0 {P : Program} {w : World} {X : Cx} : Passes (L2.CX P w) X E0 := fun _ _ _ _ _ _ _ ⟨_, _, _, _, _, _, _, _, _, _, _, _, h⟩ => h.elim
def sNoxS (g : GS) : GS := fun en m => match g en m with
  | .ex _ _ => .bad
  | o => o
theorem dss_noxS {X : Cx} {E : XK} {sts : List Stmt} {g : GS} (h : DSs X E0 sts g) : DSs X E sts (sNoxS g) := pssImp h fun D σ H ⟨al, be, m, en, s, l, h⟩ => ⟨al, be, m, en, s, l, by
  unfold sNoxS at h
  cases e : g en m with
  | ex x m1 => rw [e] at h; exact h.elim
  | nx en2 m2 => rw [e] at h; exact h
  | bk en2 m2 => rw [e] at h; exact h
  | ct en2 m2 => rw [e] at h; exact h
  | rt d m2 => rw [e] at h; exact h
  | bad => rw [e] at h; exact h⟩
end L3
namespace PySem
namespace HandSPX
open PySem.Spec PySem.Calls PyProof.Rows PySem.W
section
variable {M : Model} {A : Around} {E : Value → Shared → Prop} {h : Heap} {g : Array GenState} {d : Drawn} {t : Nat} {os : OsState}
variable {nm q : Str} {C N : Addr} {bs bm bmB : List Value} {hdct : Bool} {sn : List Str} {sub : List Value} {ab : Bool} {col : Option Bool} {dd : Option Addr} {k0 k1 k2 k3 k5 : Option Value} {B newId initId : String}
end
section
variable {prog : Program} {w : World} {A : Around} {E : Value → Shared → Prop} {R : Result → Shared → Prop} {h : Heap} {g : Array GenState} {d : Drawn} {t : Nat} {os : OsState}
variable {nm q : Str} {C N : Addr} {bs bm bmB : List Value} {hdct : Bool} {sn : List Str} {sub : List Value} {ab : Bool} {col : Option Bool} {dd : Option Addr} {k0 k1 k2 k3 k5 : Option Value} {B newId initId : String}
end
end HandSPX
end PySem
namespace L2
open PySem PySem.Spec PyProof.Rows
section
variable {X : Cx} {pins : List (Addr × Obj)} {σ : St} {H : Hp} {s : Shared}
variable {CX : CXT} {x f : Str} {C fI : Addr} {k : Nat} {fd : FuncData} {ps : List Str} {sp : Sp} {e : Expr} {es : List Expr} {ta : TA} {te : TE} {p pos : Pos}
end
end L2
namespace L3
open PySem PySem.Spec L2
open PyProof.Rows hiding St
structure CalEM (P : Program) (w : World) (K : PySem.W.Frag) (mg : Str → Option Value) (base : Heap) (CX : CXT) (k : Nat) (c f par : Str) : Prop where
  ex : ∃ (fI : Addr) (fd : FuncData) (ps : List Str), FnOk P w K mg base CX k fI fd ps (spE K f) ∧ OexC K (He.ga K c) ∧ PySem.W.findIn K (.ref (He.ga K c)) "__init__" = some (some (.ref fI)) ∧ PySem.W.typeIn K (.ref fI) = some (.type "function") ∧
    PySem.W.findIn K (.ref (He.ga K c)) f = some none ∧ mg c = some (.ref (He.ga K c)) ∧ Binds K fd ps [] ∧ ∀ (s : Shared) (u1 u2 : Value), K.In s.heap → BindsTo s fd ⟨[u1], [(par, u2)]⟩ (ps.zip [u1, u2])
def spE0 (K : PySem.W.Frag) : Sp := fun vs H Q E => ∃ (a C : Addr), vs = [.ref a] ∧ OexC K C ∧ H a = some (exo a C none) ∧ Q .non H
structure CalE0 (P : Program) (w : World) (K : PySem.W.Frag) (mg : Str → Option Value) (base : Heap) (CX : CXT) (k : Nat) (c : Str) : Prop where
  ex : ∃ (fI : Addr) (fd : FuncData) (ps : List Str), FnOk P w K mg base CX k fI fd ps (spE0 K) ∧ OexC K (He.ga K c) ∧ PySem.W.findIn K (.ref (He.ga K c)) "__init__" = some (some (.ref fI)) ∧ PySem.W.typeIn K (.ref fI) = some (.type "function") ∧ mg c = some (.ref (He.ga K c)) ∧ Binds K fd ps []
section
variable {CX : CXT} {P : Program} {w : World} {K : PySem.W.Frag} {mg : Str → Option Value} {base : Heap} {k : Nat} {f : Addr} {fd : FuncData} {x qual msg : Str} {params : Arguments} {scope : Scope} {dvs : List V} {kws : List (Str × V)} {st1 : Stmt}
theorem fn_init0 (T : FunD K x qual params [st1] scope dvs kws f fd) (S : FnScope ["self"] ["self"] scope)
    (h1 : ∀ cdv A outer s H E, PS (cxOf CX P w K mg base ["self"] qual scope f cdv A outer s H E) st1 (tDrop (tVeI K (tCons (tVar 0) (tCons (tC (.str msg)) tNil))))) : FnOk P w K mg base CX (k + 1) f fd ["self"] (spE0 K) := by
  refine T.ok S (fun vs H Q E ⟨a, C, e, _⟩ => by rw [e]; rfl) fun cdv A outer s H vs Q E hr ⟨a, C, e, TC, ha, hq⟩ => ⟨_, pss_one (h1 cdv A outer s H E), ?_⟩
  subst e
  exact ⟨.ref a, rfl, a, C, [.str msg], rfl, by simp, TC, ha, hq⟩
end
section
variable {X : Cx} {E : XK} {CX : CXT} {e : Expr} {ge : GE} {c f par : Str} {k : Nat} {p pos kpos : Pos}
end
end L3
namespace He
open PySem PySem.Spec PyProof.Rows L2
end He
namespace L3
open PySem PySem.Spec L2
open PyProof.Rows hiding St
section
variable {K : PySem.W.Frag} {cs : List Str} {vs : List (Str × String × Bool)}
theorem err_cls0 (h : He.errB2 cs vs K = true) {c : Str} (hm : c ∈ cs) : OexC K (He.ga K c) ∧ PySem.W.findIn K (.ref (He.ga K c)) "__init__" = some (some (.ref (He.ma K (He.ga K c) "__init__"))) ∧ PySem.W.typeIn K (.ref (He.ma K (He.ga K c) "__init__")) = some (.type "function") := by
  have h1 := List.all_eq_true.mp (He.ba h).1 _ hm
  obtain ⟨a1, a2⟩ := He.ba h1
  obtain ⟨a3, a4⟩ := He.ba a2
  exact ⟨He.oexB_ok a1, He.eqO_ok a3, of_decide_eq_true a4⟩
end
end L3
namespace LamX
open PySem PySem.Spec PyProof.Rows L2
def TabPs (H : Hp) (P : Addr) (q : Str) (ps : Array Value) : Prop := H P = some (.tbl ps) ∧ TriplesOk ps.toList ∧ ∀ (pos : Pos) (cv : Value), codeAmong pos ps.toList = some cv → ∃ c, cv = .ref c ∧ H c = some (CodeO c q)
def LamCh (H : Hp) (P : Addr) (q : Str) (ps : Array Value) (H1 : Hp) : Prop := H1 = H ∨ ∃ (more : Array Value) (c' : Addr), H c' = none ∧ TriplesOk (ps ++ more).toList ∧
  (∀ (pos : Pos) (cv : Value), codeAmong pos (ps ++ more).toList = some cv → codeAmong pos ps.toList = some cv ∨ cv = .ref c') ∧ H1 = upd (upd H P (.tbl (ps ++ more))) c' (CodeO c' q)
section
variable {X : Cx} {pins : List (Addr × Obj)} {σ : L2.St} {H : Hp} {s : Shared}
theorem lam_make3 {ps : Array Value} {c P : Addr} {params : Arguments} {body : Expr} {scope : Scope} {pos : Pos} {E : Value → Shared → Prop} {Q : Value → Shared → Prop} (I : Inv X pins σ H s) (TB : TabB X.base X.mg c P) (hcode : X.env.code = .ref c)
    (hT : TabPs H P (X.env.qual ++ "<lambda>") ps) (hdef : defaultsOf params X.env = ([], [])) (hfree : ∀ y ∈ scope.names, y.2 = .free → ∃ c, X.env.cells.lookup y.1 = some c)
    (h : ∀ (f c' : Addr) (pm ctv : Value) (H1 : Hp) (s' : Shared), Inv X pins σ H1 s' → LamCh H P (X.env.qual ++ "<lambda>") ps H1 →
      s'.heap.get? f = some (PySem.W.kla_obj "<lambda>" (X.env.qual ++ "<lambda>") params body scope (cloFrom X.env.cells scope.names []) pm c' ctv) → H1 f = none → f ∉ frs X.stack → H1 c' = some (CodeO c' (X.env.qual ++ "<lambda>")) → Q (.ref f) s') :
    wpAny (model X.prog X.w) X.A (eval (.Lambda params body scope pos) X.env) Q E s := by
  obtain ⟨hP, ht, ha⟩ := hT
  refine PySem.W.kla_eval hdef ?_
  have bP : s.heap.BuiltinsAt X.mg P := TB.bm.keeps I.bk
  have hP' : s.heap.get? P = some { cls := .none, data := .fields ps } := I.hok P _ hP
  have nofr : ∀ f, s.heap.objs.size ≤ f → f ∉ frs X.stack := fun f hf z => by
    rcases List.mem_cons.mp (I.stkSub _ z) with e | e
    · have h1 := I.lt
      rw [← e] at h1
      exact Nat.lt_irrefl _ (Nat.lt_of_lt_of_le h1 hf)
    · exact I.nofs hf e
  cases hc : codeAmong pos ps.toList with
  | none =>
    refine PySem.W.kla_makeFunction (mg := X.mg) (c := c) (P := P) (ps := ps) (closure_ok hfree) I.ok.glob (I.mod.glob.keeps I.bk) hcode (TB.code.keeps I.bk) hP' ht hc TB.gP bP fun c' ctv h' tk hx hge hlt hrec htb => ?_
    obtain ⟨c2, oc, vs, t, e2, hoc, hd, hv⟩ := hrec
    cases e2
    have hsz : s.heap.objs.size ≤ h'.objs.size := Nat.le_trans hge (Nat.le_of_lt hlt)
    have nC : H c' = none := I.hok.fresh hge
    have I1 := inv_table (t' := tk) (more := #[rawInt pos.line, rawInt pos.col, .ref c']) (h' := h'.push (PySem.W.kla_obj "<lambda>" (X.env.qual ++ "<lambda>") params body scope (cloFrom X.env.cells scope.names []) ((X.mg "__name__").getD .none) c' ctv)) I hP
      (fun b o hb e => Heap.get?_push_of_some _ (hx b o hb e)) (Heap.get?_push_of_some _ htb) hge ⟨oc, vs, t, Heap.get?_push_of_some _ hoc, hd, hv⟩
    have eL : (ps ++ #[rawInt pos.line, rawInt pos.col, .ref c']).toList = ps.toList ++ [rawInt pos.line, rawInt pos.col, .ref c'] := by simp
    refine h h'.objs.size c' ((X.mg "__name__").getD .none) ctv _ _ I1 (.inr ⟨_, c', nC, by rw [eL]; exact PySem.TriplesOk_snoc _ _ _ _ ht, fun p' cv hcv => ?_, rfl⟩) (Heap.get?_push_size _ rfl) ?_ (nofr _ hsz) upd_same
    · rw [eL] at hcv
      exact among_app _ ht hcv
    · have n1 : h'.objs.size ≠ c' := Nat.ne_of_gt hlt
      have n2 : h'.objs.size ≠ P := Nat.ne_of_gt (Nat.lt_of_lt_of_le (Heap.lt_size hP') hsz)
      rw [upd_ne n1, upd_ne n2]
      exact I.hok.fresh hsz
  | some cv =>
    obtain ⟨c', e, hco⟩ := ha pos cv hc
    subst e
    refine PySem.W.kla_makeFunctionHit (mg := X.mg) (c := c) (P := P) (ps := ps) (closure_ok hfree) I.ok.glob (I.mod.glob.keeps I.bk) hcode (TB.code.keeps I.bk) hP' ht hc bP fun ctv h' tk hx hsz => ?_
    have I1 : Inv X pins σ H { s with heap := h'.push (PySem.W.kla_obj "<lambda>" (X.env.qual ++ "<lambda>") params body scope (cloFrom X.env.cells scope.names []) ((X.mg "__name__").getD .none) c' ctv), toks := tk } := I.kept fun b o e => Heap.get?_push_of_some _ (hx b o e)
    exact h h'.objs.size c' ((X.mg "__name__").getD .none) ctv H _ I1 (.inl rfl) (Heap.get?_push_size _ rfl) (I.hok.fresh hsz) (nofr _ hsz) hco
end
section
variable {X : Cx}
end
end LamX
namespace L3
open PySem PySem.Spec L2
open PyProof.Rows hiding St
theorem lam_ss {K : PySem.W.Frag} {al be : List Addr} {H H1 : Hp} {m : Sto} {k : Nat} {P : Addr} {q : Str × Str × Option Str} {ps : Array Value} (s : SS K al be H m) (ek : al[k]? = some P) (em : m[k]? = some (.tab q)) (hP : H P = some (.tbl ps)) (hT : ∀ (pos : Pos) (cv : Value), codeAmong pos ps.toList = some cv → ∃ c, cv = .ref c ∧ Fz al be H c (LamX.CodeO c q.1))
    (h : LamX.LamCh H P q.1 ps H1) : Chg al H al H1 ∧ SS K al be H1 m := by
  rcases h with rfl | ⟨more, c', nC, ht, hc, rfl⟩
  · exact ⟨.refl, s⟩
  · obtain ⟨n1, n2⟩ := s.notNew nC
    have nPc : P ≠ c' := ne_of_none hP nC
    have w1 : Chg al H al (upd H P (.tbl (ps ++ more))) := Chg.write ek
    have nC1 : upd H P (.tbl (ps ++ more)) c' = none := by rw [upd_ne (Ne.symm nPc)]; exact nC
    have w2 : Chg al (upd H P (.tbl (ps ++ more))) al (upd (upd H P (.tbl (ps ++ more))) c' (LamX.CodeO c' q.1)) := Chg.ext (ext_upd nC1)
    have chg := w1.trans w2
    refine ⟨chg, ?_⟩
    have nP : P ∈ al := List.mem_of_getElem? ek
    refine ⟨s.len, s.nd, fun j a o e1 e2 => ?_, fun a ha => ?_, s.dis⟩
    · by_cases hj : j = k
      · subst hj
        rw [ek] at e1; cases e1
        rw [em] at e2; cases e2
        refine ⟨(s.obj _ _ _ ek em).1, ps ++ more, by rw [upd_ne nPc, upd_same], ht, fun pos cv hcv => ?_⟩
        rcases hc pos cv hcv with z | z
        · obtain ⟨c, e, f⟩ := hT pos cv z
          exact ⟨c, e, chg.fz f⟩
        · exact ⟨c', z, ⟨by show upd _ _ _ _ = _; rw [upd_same], n1, n2⟩⟩
      · have hne : a ≠ P := fun z => hj (nodup_get s.nd (z ▸ e1) ek)
        have hac : a ≠ c' := fun z => n1 (z ▸ List.mem_of_getElem? e1)
        exact (s.obj j a o e1 e2).mono (fun b u z => chg.fz z) (fun _ _ z => z) fun u z => by rw [upd_ne hac, upd_ne hne]; exact z
    · obtain ⟨u, e, nt⟩ := s.tr a ha
      have hne : a ≠ P := fun z => s.dis P nP (z ▸ ha)
      have hac : a ≠ c' := fun z => n2 (z ▸ ha)
      exact ⟨u, by rw [upd_ne hac, upd_ne hne]; exact e, nt⟩
end L3
namespace L3
open PySem PySem.Spec L2
open PyProof.Rows hiding St
def calmS : SO → SO
  | .ex _ _ => .bad
  | o => o
def hTryN (sub : Str → Str → Option Bool) : List (Str × Option Nat × GS) → Exn → Sl → Sto → SO
  | [], x, _, m => .ex x m
  | (c, i, g) :: l, x, en, m => match sub x.c c with
    | some true => (match i with
      | some i => goneO i (g (en.set i (some (.exc x.c x.ns x.ds))) m)
      | none => calmS (g en m))
    | some false => hTryN sub l x en m
    | none => .bad
inductive HdN (X : Cx) (sub : Str → Str → Option Bool) : List ExceptHandler → List (Str × Option Nat × GS) → Prop
  | nil : HdN X sub [] []
  | cons {x n : Str} {cn : Str} {i : Nat} {gs : GS} {b₀ : Stmt} {suite : List Stmt} {np pos' : Pos} {hds : List ExceptHandler} {l : List (Str × Option Nat × GS)} (hi : X.N[i]? = some n) (hln : X.env.kindOf n = some .local) (hc : Names X x (.ref (He.ga X.K cn)))
      (hsub : ∀ c b, sub c cn = some b → PySem.W.exmOne X.K (.ref (He.ga X.K c)) (.ref (He.ga X.K cn)) = some b)
      (hsu : ∀ (a : Addr) (pn : List (Addr × Obj)), DSs (X.suite a pn) E0 (b₀ :: suite) gs) (r : HdN X sub hds l) :
      HdN X sub (.ExceptHandler (some (.Name x np)) (some n) (b₀ :: suite) pos' :: hds) ((cn, some i, gs) :: l)
  | consN {x : Str} {cn : Str} {gs : GS} {b₀ : Stmt} {suite : List Stmt} {np pos' : Pos} {hds : List ExceptHandler} {l : List (Str × Option Nat × GS)} (hc : Names X x (.ref (He.ga X.K cn)))
      (hsub : ∀ c b, sub c cn = some b → PySem.W.exmOne X.K (.ref (He.ga X.K c)) (.ref (He.ga X.K cn)) = some b)
      (hsu : ∀ (a : Addr) (pn : List (Addr × Obj)), DSs (X.suite a pn) E0 (b₀ :: suite) gs) (r : HdN X sub hds l) :
      HdN X sub (.ExceptHandler (some (.Name x np)) none (b₀ :: suite) pos' :: hds) ((cn, none, gs) :: l)
def clN (K : PySem.W.Frag) (l : List (Str × Option Nat × GS)) : List (Value × Option Nat × TS) := l.map fun q => (.ref (He.ga K q.1), q.2.1, tS K E0 q.2.2)
section
variable {X : Cx} {E : XK} {sub : Str → Str → Option Bool} {pos : Pos}
theorem HdN.toT : ∀ {hds : List ExceptHandler} {cl : List (Str × Option Nat × GS)}, HdN X sub hds cl → HdsT X hds (clN X.K cl)
  | _, _, .nil => .nil
  | _, _, .cons hi hln hc hsub hsu r => .cons hi hln hc hsu r.toT
  | _, _, .consN hc hsub hsu r => .consN hc hsu r.toT
end
def TT3 (K : PySem.W.Frag) (M : (Sto → Out D) → Sto → Out D) : (XK → Hp → VK → Prop) → Hp → VK → Prop := fun tl H Q => ∃ (al be : List Addr) (m : Sto) (L : Sto → Out D), SS K al be H m ∧
  (∀ (al1 : List Addr) (H1 : Hp) (m1 : Sto) (E : XK) (Q1 : VK), Chg al H al1 H1 → SS K al1 be H1 m1 → Post K al1 be H1 E (L m1) (fun d al' H' _ => ∀ v, RD K al' be H' d v → Q1 v H') → tl E H1 Q1) ∧
  Post K al be H E0 (M L m) (fun d al' H' _ => ∀ v, RD K al' be H' d v → Q v H')
section
variable {Z : Cx} {f c' : Addr} {q a w : Str} {tl : XK → Hp → VK → Prop} {L : Sto → Out D} {W : WX} {p1 p2 p3 p4 : Pos}
end
section
variable {Z : Cx} {f c' : Addr} {q a w y : Str} {tl : XK → Hp → VK → Prop} {L : Sto → Out D} {W : WX} {p1 p2 p3 p4 p5 p6 : Pos} {j j1 : Nat}
end
section
variable {X : Cx} {Ng : List Str} {x a y q : Str} {sg : Scope} {g : Addr} {cdg : Value} {b : Stmt} {h₀ : ExceptHandler} {hds : List ExceptHandler} {rest : List Stmt} {j j1 : Nat} {p1 p2 p3 pt : Pos} {sub : Str → Str → Option Bool} {cl : List (Str × Option Nat × GS)} {gb : (Sto → Out D) → GS} {grest : GS}
end
structure CalT (P : Program) (w : World) (K : PySem.W.Frag) (mg : Str → Option Value) (base : Heap) (x : Str) (M : (Sto → Out D) → Sto → Out D) : Prop where
  ex : ∃ (g : Addr) (a : Str) (pg : Arguments) (bg : List Stmt) (sg : Scope) (dV kV doc pm cdv ct oc : Value) (an od : Option Addr) (osl : Array (Option Value)) (Ng : List Str), mg x = some (.ref g) ∧ PySem.W.keepIn K (.ref g) = true ∧
    K.lookup g = some ⟨oc, od, .func (PySem.W.fnOf x x pg bg sg dV kV doc pm an cdv ct), osl⟩ ∧ PySem.W.codeIn K cdv x = true ∧ L2.Binds K (PySem.W.fnOf x x pg bg sg dV kV doc pm an cdv ct) [a] [] ∧ FnScope Ng [a] sg ∧ Ng[0]? = some a ∧ Vis sg a ∧
    ((a == ("__debug__" : Str)) = false ∧ (a == ("__classdict__" : Str)) = false) ∧ ∀ (X : Cx) (q : Str), X.prog = P → X.w = w → X.K = K → X.mg = mg → X.base = base → LamX.GivesTo X Ng x sg g cdv bg a q (TT3 K M)
section
variable {X : Cx}
end
end L3
namespace L3
open PySem PySem.Spec L2
open PyProof.Rows hiding St
def WalksC (CX : CXT) (P : Program) (w : World) (K : PySem.W.Frag) (mg : Str → Option Value) (base : Heap) (k : Nat) (N : List Str) (qual : Str) (scope : Scope) (f : Addr) (cdv : Value) (body : List Stmt) (g : GS) : Prop :=
  ∀ (A : Around) (outer : List Env) (s : Shared) (H : Hp) (E : XK), Room k (A.deeper (envOfC qual scope s.heap.objs.size f cdv)) → A.guards = some [] →
    DSs (cxOf CX P w K mg base N qual scope f cdv A outer s H E) E body g
theorem code_is {K : PySem.W.Frag} {x qual : Str} {params : Arguments} {body : List Stmt} {scope : Scope} {dvs : List V} {kws : List (Str × V)} {d : Str × Option Str} {fd : FuncData} (T : FunD K x qual params body scope dvs kws (He.fAd K d) fd) {oc od dV kV doc pm an cdv ct osl}
    (e : fd = PySem.W.fnOf x qual params body scope dV kV doc pm an cdv ct) (lk : K.lookup (He.fAd K d) = some ⟨oc, od, .func (PySem.W.fnOf x qual params body scope dV kV doc pm an cdv ct), osl⟩) (hcd : PySem.W.codeIn K cdv qual = true) : cdv = .ref (He.cT K d).1 := by
  obtain ⟨c, rfl⟩ := He.codeIn_ref hcd
  exact congrArg Value.ref (He.codeOf_eq lk rfl).symm
section
variable {CX : CXT} {P : Program} {w : World} {K : PySem.W.Frag} {mg : Str → Option Value} {base : Heap} {k : Nat} {fd : FuncData} {x qual : Str} {params : Arguments} {body : List Stmt} {scope : Scope} {dvs : List V} {kws : List (Str × V)} {N ps : List Str} {F : FM} {g : GS} {ext : Nat → D → Sto → Out D} {d : Str × Option Str}
theorem fnG_ofC (T : FunD K x qual params body scope dvs kws (He.fAd K d) fd) (S : FnScope N ps scope) (hx : ExtOk ext) (walk : WalksC CX P w K mg base k N qual scope (He.fAd K d) (.ref (He.cT K d).1) body g) : FnG P w K mg base CX (k + 1) (He.fAd K d) fd ps ps.length (runF ext N.length g) := by
  obtain ⟨oc, od, dV, kV, doc, pm, an, cdv, ct, osl, rfl, lk, hcd, _, _⟩ := T.ex
  have ec := code_is T rfl lk hcd
  subst ec
  refine ⟨rfl, fun {A outer s H args us vs Q E} hG hr e0 hb r hsp => ?_⟩
  have hlen : vs.length = ps.length := by
    obtain ⟨al, be, m, ds, ss, rr, hl, _⟩ := hsp
    rw [rr.length, hl]
  have kept : ∀ b o, base.get? b = some o → s.heap.get? b = some o := fun b o e => (e0.bs b o e).1
  have inK := e0.mod.kin.keeps kept
  have par : ∀ y ∈ ps.zip us, scope.names.lookup y.1 = some .local ∨ (scope.names.lookup y.1 = some .cell ∧ ((cellsFrom (s.heap.objs.size + 1) scope.names []).lookup y.1).isSome = true) := by
    rintro ⟨z, u⟩ hy
    exact (S.par z (List.of_mem_zip hy).1).imp id fun q => ⟨q, PySem.W.cellsFrom_some _ _ _ (.inl q)⟩
  refine codeAny_call_function hr.depth (inK _ _ lk) rfl S.co S.gen rfl (PySem.W.codeRec_of inK hcd) (hb _ _ _ _ (wpAny_newFunctionEnv_cells S.kind par fun en ee s1 made => ?_))
  cases ee
  refine ⟨(e0.mod.nolimit.keeps kept).keeps made.toInCall.keep, codeAny_func ?_⟩
  have done := (walk A outer s H E (hr.deeper _) hG).run [] s1 _ H _ (inv_start S hr.hd e0 hlen r made) (body_ok (K := K) hx (fun _ _ => rfl) hsp)
  refine wpAny_mono done ?_ fun e s' z => z
  intro fl s' out
  match fl, out with
  | .ret u, ⟨v, _, H', J, rv, q⟩ => exact ⟨v, H', J.os, J.bare, J.base, J.hok, rv, q⟩
  | .next, ⟨_, H', J, q⟩ => exact ⟨V.non, H', J.os, J.bare, J.base, J.hok, rfl, q⟩
  | .brk, ⟨_, _, _, q⟩ => exact q.elim
  | .cont, ⟨_, _, _, q⟩ => exact q.elim
end
abbrev tAd (K : PySem.W.Frag) (p : Str × Str × Option Str) : Addr := (He.cT K p.2).2
section
variable {P : Program} {w : World} {K : PySem.W.Frag} {mg mb : Str → Option Value} {k : Nat} {fa a : Addr} {fd : FuncData} {x : Str} {F : FM} {s₁ : Shared} {ns : List Int} {tf : List (Str × Str × Option Str)}
theorem ss_tabs {H : Hp} (nd : (tf.map (tAd K)).Nodup) (tabs : ∀ b ∈ tf.map (tAd K), H b = some (.tbl #[])) : SS K (tf.map (tAd K)) [] H (tf.map MO.tab) := by
  refine ⟨by simp, nd, fun i b o e1 e2 => ?_, fun b q => absurd q List.not_mem_nil, fun b _ q => absurd q List.not_mem_nil⟩
  rw [List.getElem?_map] at e1 e2
  cases et : tf[i]? with
  | none => rw [et] at e1; cases e1
  | some p =>
    rw [et] at e1 e2
    cases e1; cases e2
    exact ⟨rfl, #[], tabs _ (List.mem_map_of_mem (List.mem_of_getElem? et)), trivial, fun pos cv hc => by cases hc⟩
theorem law_fromT {H : Hp} (KX : K.In s₁.heap) (hns : s₁.heap.Ns mainGlobals mg) (hb : s₁.heap.Ns builtinsNs mb) (hbb : ∀ x : Str, x ≠ "__name__" → mb x = bootBuiltins x) (hlim : s₁.heap.NoLimit) (hg : s₁.gens = #[]) (hr : Room k callerA)
    (hbm : ∃ (bm : Addr) (ob : Obj), mg "__builtins__" = some (.ref bm) ∧ bm ≠ builtinsNs ∧ s₁.heap.get? bm = some ob ∧ ob.cls = .type "module" ∧ ob.dict = some builtinsNs ∧ ob.data = .plain)
    (nd : (tf.map (tAd K)).Nodup) (hhd : ∀ p ∈ tf, PySem.W.codeHdIn K (He.cT K p.2).1 (He.cT K p.2).2 = true) (hT : ∀ p ∈ tf, s₁.heap.get? (tAd K p) = some noTab)
    (hF : ∀ base : Heap, K.In base → base.Ns mainGlobals mg → (∀ p ∈ tf, LamX.TabB base mg (He.cT K p.2).1 (He.cT K p.2).2) → FnG P w K mg base CX0 k fa fd [x] 1 F) (hbind : ∀ (s : Shared) (u : Value), BindsTo s fd ⟨[u], []⟩ [(x, u)]) (hv : ∃ m, F [.scr ns] (tf.map .tab) = .ok (.bl true) m)
    (script : RD K (tf.map (tAd K)) [] H (.scr ns) (.ref a)) (hok : HOk P w H s₁.heap) (onlyF : ∀ b u, H b = some u → (∃ o z, u = .frz o z) ∨ b ∈ tf.map (tAd K)) (tabs : ∀ b ∈ tf.map (tAd K), H b = some (.tbl #[]))
    (free : ∀ b o, s₁.heap.get? b = some o → ((∃ es ep, o.data = .dict es ep) ∨ o.data = .plain) ∨ K.lookup b = some o → H b = none) :
    codeAny (model P w) callerA (.call (.ref fa) ⟨[.ref a], []⟩) (fun r s' => r = .ok (.ret (.bool true)) ∧ OldK s₁.heap s'.heap ∧ s'.os = s₁.os ∧ AllBare s'.gens) s₁ := by
  obtain ⟨mF, hv⟩ := hv
  have hid : ∀ {b : Addr} {mm : Str → Option Value}, s₁.heap.Ns b mm → (hidT s₁.heap H).Ns b mm := by
    rintro b mm ⟨o, es, ep, e, d, r⟩
    exact ⟨o, es, ep, hidT_get e (free b o e (.inl (.inl ⟨es, ep, d⟩))), d, r⟩
  have KB : K.In (hidT s₁.heap H) := fun b o e => hidT_get (KX b o e) (free b o (KX b o e) (.inr e))
  obtain ⟨mc, l1, l2⟩ := hlim
  have en : Env0 P w K mg (hidT s₁.heap H) callerA [] s₁ H := { frames := rfl, mod := ⟨KB, hid hns, ⟨mb, hid hb, hbb⟩, mc, hid l1, l2⟩, bs := fun b o e => of_hidT e, bsz := by rw [hidT_size]; exact Nat.le_refl _, funs := trivial, frf := (fun b q => absurd q List.not_mem_nil), hok := hok, bare := .of_eq hg }
  have TB : ∀ p ∈ tf, LamX.TabB (hidT s₁.heap H) mg (He.cT K p.2).1 (He.cT K p.2).2 := fun p hp => by
    have ht := hT p hp
    refine NdefX.tabB_of_K KB (hhd p hp) ?_ fun z => ?_
    · obtain ⟨bm, ob, b1, b2, b3, b4, b5, b6⟩ := hbm
      refine ⟨bm, ob, b1, b2, fun z => ?_, fun z => ?_, hidT_get b3 (free bm ob b3 (.inl (.inr b6))), b4, b5, b6⟩
      · obtain ⟨og, es, ep, q1, q2, _⟩ := hns
        rw [z, q1] at b3
        cases b3
        rw [q2] at b6; cases b6
      · have ht2 : s₁.heap.get? (He.cT K p.2).2 = some noTab := ht
        rw [← z, b3] at ht2
        cases ht2
        cases b6
    · obtain ⟨og, es, ep, q1, q2, _⟩ := hns
      have ht2 : s₁.heap.get? (He.cT K p.2).2 = some noTab := ht
      rw [← z, q1] at ht2
      cases ht2
      cases q2
  have sp : SpF K 1 F [.ref a] H (fun v _ => v = .bl true) (fun _ _ _ => False) :=
    ⟨tf.map (tAd K), [], tf.map .tab, [.scr ns], ss_tabs nd tabs, .cons script .nil, rfl, by
      rw [hv]
      exact fun al' H' c s v rv => rd_bl.mp rv⟩
  refine codeAny_mono ((hF _ KB (hid hns) TB).go (us := [.ref a]) (vs := [.ref a]) rfl hr en (hbind s₁ (.ref a)) (.cons rfl .nil) sp) ?_
  intro r s' z
  match r, z with
  | .error e, z => exact z.elim
  | .ok .next, z => exact z.elim
  | .ok .brk, z => exact z.elim
  | .ok .cont, z => exact z.elim
  | .ok (.ret u), ⟨v, H', os, bare, un, ok', rv, ev⟩ =>
    subst ev
    cases rv
    have stay : ∀ b o, s₁.heap.get? b = some o → b ∉ tf.map (tAd K) → s'.heap.get? b = some o := fun b o e nb => by
      cases q : H b with
      | none => exact un.keep b o e q (fun y => by cases y) fun y => by cases y
      | some u =>
        rcases onlyF b u q with ⟨ob, z, rfl⟩ | z
        · have k1 := (hok b _ q).1
          have k2 := (ok' b _ (un.frzs b ob z q)).1
          rw [e] at k1
          cases k1
          exact k2
        · exact absurd z nb
    have grew : ∀ b ∈ tf.map (tAd K), ∃ p ∈ tf, b = tAd K p ∧ ∃ more : Array Value, s'.heap.get? b = some { cls := .none, data := .fields more } := fun b hb => by
      obtain ⟨p, hp, e⟩ := List.mem_map.mp hb
      obtain ⟨more, q⟩ := un.tbls b #[] (tabs b hb)
      exact ⟨p, hp, e.symm, _, ok' b _ q⟩
    refine ⟨rfl, ⟨fun b o e => ?_, fun b o e => ?_⟩, os, bare⟩
    · by_cases hb : b ∈ tf.map (tAd K)
      · obtain ⟨p, hp, ep, more, hm⟩ := grew b hb
        subst ep
        have ht := hT p hp
        rw [ht] at e
        cases e
        exact .inr (.inl ⟨((PySem.W.codeHd_of_K KX (hhd p hp)).tab ht).isCodeTable, rfl, #[], more, rfl, by simpa using hm⟩)
      · exact .inl (stay b o e hb)
    · by_cases hb : b ∈ tf.map (tAd K)
      · obtain ⟨p, hp, ep, more, hm⟩ := grew b hb
        exact ⟨_, hm⟩
      · exact ⟨o, stay b o e hb⟩
def tabH (T : List Addr) : Hp := fun b => if b ∈ T then some (.tbl #[]) else none
theorem law_runT {vs : List Value} (KX : K.In s₁.heap) (hns : s₁.heap.Ns mainGlobals mg) (hb : s₁.heap.Ns builtinsNs mb) (hbb : ∀ x : Str, x ≠ "__name__" → mb x = bootBuiltins x) (hlim : s₁.heap.NoLimit) (hg : s₁.gens = #[])
    (hbm : ∃ (bm : Addr) (ob : Obj), mg "__builtins__" = some (.ref bm) ∧ bm ≠ builtinsNs ∧ s₁.heap.get? bm = some ob ∧ ob.cls = .type "module" ∧ ob.dict = some builtinsNs ∧ ob.data = .plain)
    (nd : (tf.map (tAd K)).Nodup) (hhd : ∀ p ∈ tf, PySem.W.codeHdIn K (He.cT K p.2).1 (He.cT K p.2).2 = true) (hT : ∀ p ∈ tf, s₁.heap.get? (tAd K p) = some noTab) (nT : ∀ p ∈ tf, K.lookup (tAd K p) = none)
    (ha : s₁.heap.get? a = some { cls := .type "list", data := .seq vs.toArray }) (hi : IntsAre vs ns) (hl : ns.length ≤ sizeLine) (hr : Room k callerA)
    (hF : ∀ base : Heap, K.In base → base.Ns mainGlobals mg → (∀ p ∈ tf, LamX.TabB base mg (He.cT K p.2).1 (He.cT K p.2).2) → FnG P w K mg base CX0 k fa fd [x] 1 F) (hbind : ∀ (s : Shared) (u : Value), BindsTo s fd ⟨[u], []⟩ [(x, u)]) (hv : ∃ m, F [.scr ns] (tf.map .tab) = .ok (.bl true) m) :
    codeAny (model P w) callerA (.call (.ref fa) ⟨[.ref a], []⟩) (fun r s' => r = .ok (.ret (.bool true)) ∧ OldK s₁.heap s'.heap ∧ s'.os = s₁.os ∧ AllBare s'.gens) s₁ := by
  have rv := vals_of_ints hi
  have isT : ∀ b ∈ tf.map (tAd K), s₁.heap.get? b = some noTab ∧ K.lookup b = none := fun b hb => by
    obtain ⟨p, hp, rfl⟩ := List.mem_map.mp hb
    exact ⟨hT p hp, nT p hp⟩
  have aT : a ∉ tf.map (tAd K) := fun z => by
    have q := (isT a z).1
    rw [ha] at q
    cases q
  have tIn : ∀ {b : Addr}, b ∈ tf.map (tAd K) → tabH (tf.map (tAd K)) b = some (.tbl #[]) := fun {b} h => if_pos h
  have tOut : ∀ {b : Addr}, b ∉ tf.map (tAd K) → tabH (tf.map (tAd K)) b = none := fun {b} h => if_neg h
  have tFree : ∀ b o, s₁.heap.get? b = some o → ((∃ es ep, o.data = .dict es ep) ∨ o.data = .plain) ∨ K.lookup b = some o → b ∉ tf.map (tAd K) := fun b o e h hb => by
    obtain ⟨q1, q2⟩ := isT b hb
    rw [e] at q1
    cases q1
    rcases h with (⟨es, ep, d⟩ | d) | h
    · cases d
    · cases d
    · rw [q2] at h; cases h
  cases hk : K.lookup a with
  | some o =>
    have e := KX a o hk
    rw [ha] at e
    cases e
    refine law_fromT (H := tabH (tf.map (tAd K))) KX hns hb hbb hlim hg hr hbm nd hhd hT hF hbind hv ?_ (fun b u q => ?_) (fun b u q => ?_) (fun b hb => tIn hb) fun b o e h => tOut (tFree b o e h)
    · unfold RD
      exact ⟨a, rfl, .inr (.inr ⟨_, _, _, hk, rfl, rfl, rfl, by rw [List.size_toArray, hi.length]; exact hl, rv⟩)⟩
    · by_cases hb : b ∈ tf.map (tAd K)
      · rw [tIn hb] at q
        cases q
        exact (isT b hb).1
      · rw [tOut hb] at q; cases q
    · by_cases hb : b ∈ tf.map (tAd K)
      · exact .inr hb
      · rw [tOut hb] at q; cases q
  | none =>
    have off : ∀ {u : HO} {b : Addr}, b ≠ a → upd (tabH (tf.map (tAd K))) a u b = tabH (tf.map (tAd K)) b := fun {u b} n => upd_ne n
    have neT : ∀ b ∈ tf.map (tAd K), b ≠ a := fun b hb z => aT (z ▸ hb)
    refine law_fromT (H := upd (tabH (tf.map (tAd K))) a (.frz { cls := .type "list", data := .seq vs.toArray } (.lst (ns.map V.int)))) KX hns hb hbb hlim hg hr hbm nd hhd hT hF hbind hv ?_ (fun b u q => ?_) (fun b u q => ?_) (fun b h => (off (neT b h)).trans (tIn h)) fun b o e h => ?_
    · unfold RD
      exact ⟨a, rfl, .inr (.inl ⟨_, upd_same, aT, by simp⟩)⟩
    · by_cases z : b = a
      · subst z
        rw [upd_same] at q
        cases q
        exact ⟨ha, by rw [List.length_map]; exact hl, vs, _, rv, ha⟩
      · rw [off z] at q
        by_cases h : b ∈ tf.map (tAd K)
        · rw [tIn h] at q
          cases q
          exact (isT b h).1
        · rw [tOut h] at q; cases q
    · by_cases z : b = a
      · subst z
        rw [upd_same] at q
        exact .inl ⟨_, _, (Option.some.inj q).symm⟩
      · rw [off z] at q
        by_cases h : b ∈ tf.map (tAd K)
        · exact .inr h
        · rw [tOut h] at q; cases q
    · have nb : b ≠ a := fun z => by
        subst z
        rcases h with (⟨es, ep, d⟩ | d) | h
        · rw [ha] at e; cases e; cases d
        · rw [ha] at e; cases e; cases d
        · rw [hk] at h; cases h
      rw [off nb]
      exact tOut (tFree b o e h)
end
theorem law_holdsT {l : PySem.W.OpenLaw} {n k : Nat} {q : Program} {loose : List Str} {XP : (Str → Option Value) → Heap → Prop} {YP : World → Heap → Prop} {d : DefRec} {x : Str} {F : FM} {tf : List (Str × Str × Option Str)}
    (hn : l.most = some n) (hn2 : n ≤ sizeLine) (hdf : d.params.defaults = []) (hr : Room k callerA) (hv : ∀ ns : List Int, ns.length ≤ n → ∃ m, F [.scr ns] (tf.map .tab) = .ok (.bl true) m)
    (G : ∀ (w : World) (mg : Str → Option Value) (fa : Addr) (h : Heap), YP w h → h.Ns mainGlobals mg → mg d.name = some (.ref fa) →
      ∃ (K : PySem.W.Frag) (fd : FuncData), K.In h ∧ ((tf.map (tAd K)).Nodup ∧ (∀ p ∈ tf, PySem.W.codeHdIn K (He.cT K p.2).1 (He.cT K p.2).2 = true) ∧ (∀ p ∈ tf, h.get? (tAd K p) = some noTab) ∧ ∀ p ∈ tf, K.lookup (tAd K p) = none) ∧ (∀ (s : Shared) (u : Value), BindsTo s fd ⟨[u], []⟩ [(x, u)]) ∧
        ∀ base : Heap, K.In base → base.Ns mainGlobals mg → (∀ p ∈ tf, LamX.TabB base mg (He.cT K p.2).1 (He.cT K p.2).2) → FnG l.prog w K mg base CX0 k fa fd [x] 1 F) :
    PySem.W.WalkO q loose XP YP l.row.toRowW d [] (fun f vs => PySem.call f vs) := by
  refine Att.attach_call hn hdf ?_
  intro w s₀ s₁ mg mb fa o pm cd doc a vs ns Gr Y ho hd hcd hmg hobj hints hlen hg
  obtain ⟨K, fd, KX, ⟨nd, hhd, hT, nT⟩, hb, hF⟩ := G w mg fa _ Y Gr.T.g hmg
  exact law_runT KX Gr.T.g Gr.T.b Gr.T.builtins Gr.T.nolimit hg Gr.T.bmain nd hhd hT nT hobj hints (Nat.le_trans hlen hn2) hr hF hb (hv ns hlen)
end L3
namespace He
open PySem PySem.Spec PyProof.Rows L2
end He
namespace L3
open PySem PySem.Spec L2
open PyProof.Rows hiding St
end L3
namespace L3
open PySem PySem.Spec L2
open PyProof.Rows hiding St
section
variable {K : PySem.W.Frag} {al be : List Addr} {H : Hp} {a : Addr} {od : Obj} {kvs : List (List Key × V)}
end
section
variable {X : Cx} {tg : Expr} {i : Nat} {x : Str} {pos apos cpos : Pos}
end
section
variable {X : Cx} {E : XK} {pos : Pos} {tg iter elt : Expr} {ifs : List Expr} {scope : Scope} {t : GT} {c : GB} {g : GE}
end
end L3
namespace L3
open PySem PySem.Spec L2
open PyProof.Rows hiding St
structure CalIK (P : Program) (w : World) (K : PySem.W.Frag) (mg : Str → Option Value) (base : Heap) (CX : CXT) (k : Nat) (c : Str) (n : Nat) (ks : List Str) (pm : List Nat) (F : FM) : Prop where
  ex : ∃ (f : Addr) (fd : FuncData) (ps : List Str), FnOk P w K mg base CX k f fd ps (SpF K pm.length F) ∧ Mk K (He.ga K c) f ∧ mg c = some (.ref (He.ga K c)) ∧
    ∀ (s : Shared) (us ws : List Value), K.In s.heap → us.length = n + 1 → ws.length = ks.length → BindsTo s fd ⟨us, ks.zip ws⟩ (ps.zip (ord .none pm (us ++ ws)))
def gMakeMK (c : Str) (n nk : Nat) (pm : List Nat) (F : FM) (gs gk : GA) : GE := fun en m0 => (gs en m0).bind fun ds m1 => (gk en m1).bind fun es m2 => if ds.length = n ∧ es.length = nk then (F (ord .non pm (.ref m2.length :: (ds ++ es))) (m2 ++ [.ins c []])).bind fun d m3 => match d with
  | .non => .ok (.ref m2.length) m3
  | _ => .bad else .bad
section
variable {X : Cx} {E : XK} {CX : CXT} {k n : Nat} {c x : Str} {ks : List Str} {pm : List Nat} {F : FM} {p pos apos : Pos} {e : Expr} {es : List Expr} {kws : List Keyword} {gs gk : GA} {g : GE}
theorem makeMK_imp : ∀ σ H Q, tG X.K E (gMakeMK c n ks.length pm F gs gk) σ H Q → tMakeK (He.ga X.K c) n ks.length (SpF X.K pm.length F) (fun vs zs => ord .non pm (vs ++ zs)) E (tGs X.K E gs) (tGs X.K E gk) σ H Q := fun σ H Q ⟨al, be, m, en, s, l, h⟩ =>
  ⟨al, be, m, en, s, l, Post.bind h fun ds al1 H1 m1 c1 s1 h1 vs rvs => ⟨al1, be, m1, en, s1, l.chg c1, Post.bind h1 fun es al2 H2 m2 c2 s2 h2 zs rzs => by
    split at h2
    · rename_i hn
      refine ⟨by rw [rvs.length]; exact hn.1, by rw [rzs.length]; exact hn.2, fun y dx hy hd ne => ?_⟩
      obtain ⟨cn, sn, rn⟩ := new_ins (c := c) s2 hy hd ne
      have rn0 := cn.rds (RDs.append (c2.rds rvs) rzs)
      refine ⟨_, be, _, _, sn, rds_ord (RDs.cons rn rn0) pm, by simp [ord], Post.bind (Post.chg h2 cn) fun d al3 H3 m3 c3 s3 h3 v rv => ?_⟩
      split at h3
      · exact ⟨rd_non.mp rv, h3.now s3 _ (c3.rd rn)⟩
      · exact h3.elim
    · exact h2.elim⟩⟩
theorem de_makeMK {nk : Nat} (G : CalIK X.prog X.w X.K X.mg X.base CX k c n ks pm F) (hr : Room (k + 1) X.A) (hx : Passes CX X E) (hg : Gl X c) (ha : DA X E (e :: es) gs) (hk : DK X E kws gk)
    (hall : (backToKw pos (keywordEach kws X.env)).all (·.1.isSome) = true := by rfl) (hks : (backToKw pos (keywordEach kws X.env)).filterMap (·.1) = ks := by rfl)
    (hdb : (c == ("__debug__" : Str)) = false := by decide) (he : starEach (e :: es) X.env = (false, eval e X.env) :: starEach es X.env := by rfl)
    (hpl : ((backTo pos (starEach (e :: es) X.env)).any (·.1) || (backToKw pos (keywordEach kws X.env)).any (·.1.isNone)) = false := by rfl) (hnk : ks.length = nk := by rfl) :
    DE X E (.Call (.Name c p) (e :: es) kws pos) (gMakeMK c n nk pm F gs gk) := by
  subst hnk
  obtain ⟨f, fd, ps, hf, hm, hkp, hb⟩ := G.ex
  exact peImp (pe_makeK hm hf hr hg hkp ⟨hb, fun r1 r2 => vals_ord (vals_app r1 r2) pm⟩ hx ha hk hall hks hdb he hpl) makeMK_imp
structure CalP (P : Program) (w : World) (K : PySem.W.Frag) (mg : Str → Option Value) (base : Heap) (CX : CXT) (k : Nat) (c x : Str) (F : FM) : Prop where
  ex : ∃ (p g : Addr) (fd : FuncData) (ps : List Str), FnOk P w K mg base CX k g fd ps (SpF K 1 F) ∧ PropOf K (He.ga K c) x p g ∧ Cls K (He.ga K c) ∧ Binds K fd ps []
def gProp (c : Str) (F : FM) (go : GE) : GE := fun en m => (go en m).bind fun o m1 => match insOf m1 o with
  | some (c', _) => if c' = c then F [o] m1 else .bad
  | none => .bad
theorem prop_imp : ∀ σ H Q, tG X.K E (gProp c F g) σ H Q → tProp (He.ga X.K c) (SpF X.K 1 F) [] E (tG X.K E g) σ H Q := fun σ H Q ⟨al, be, m, en, s, l, h⟩ => ⟨al, be, m, en, s, l, Post.bind h fun o al1 H1 m1 c1 s1 h1 v rv => by
  split at h1
  · rename_i c' fs ei
    split at h1
    · rename_i hc
      subst hc
      obtain ⟨a, dx, vs, rfl, hv, rvs⟩ := insOf_ok s1 rv ei
      exact ⟨a, dx, vs, rfl, hv, al1, be, m1, [o], s1, RDs.cons rv RDs.nil, rfl, h1⟩
    · exact h1.elim
  · exact h1.elim⟩
theorem de_prop (he : DE X E e g) (G : CalP X.prog X.w X.K X.mg X.base CX k c x F) (hr : Room (k + 1) X.A) (hx : Passes CX X.nox E) (hab : attributeBase e x X.env (eval e X.env) = eval e X.env := by rfl) : DE X E (.Attribute e x pos) (gProp c F g) := by
  obtain ⟨p, gf, fd, ps, hf, hp, hc, hb⟩ := G.ex
  exact peImp (pe_prop he hc hp hf hr hb .nil hx hab) prop_imp
end
end L3
namespace L2
open PySem PySem.Spec PyProof.Rows
section
variable {X : Cx}
theorem mkN_end {pins : List (Addr × Obj)} {σ : L2.St} {H1 H2 : Hp} {Q : XK} {hp hp2 h2 : Heap} {g1 g2 : Array GenState} {d1 d2 : Drawn} {t1 t2 : Nat} {os1 os2 : OsState} {a C : Addr} (T : Raises X (.ref C)) (I1 : Inv X pins σ H1 ⟨hp, g1, d1, t1, os1⟩)
    (ha : hp.objs.size ≤ a) (k : ∀ b o, hp.get? b = some o → hp2.get? b = some o) (un : Un (frs X.stack) [] (upd H1 a (exo a C none)) H2 hp2 h2) (hok : HOk X.prog X.w H2 h2) (ho : os2 = os1) (hb : AllBare g2)
    (ea : H2 a = some (exo a C none)) (q : Q (.ref C) none (del H2 a)) : MkP X pins σ Q (.ref a) ⟨h2, g2, d2, t2, os2⟩ := by
  obtain ⟨t0, hoe⟩ := exo_at hok ea
  have hn : H1 a = none := I1.hok.fresh ha
  obtain ⟨G, g1', g2'⟩ := restrict h2 fun b => decide (b ≠ a)
  have gk : ∀ b, b ≠ a → G.get? b = h2.get? b := fun b hb => g1' b (decide_eq_true hb)
  have ge : G.get? a = none := g2' a (by simp)
  have nha : ∀ {b : Addr} {o : Obj}, hp.get? b = some o → b ≠ a := fun {b o} z => Nat.ne_of_lt (Nat.lt_of_lt_of_le (Heap.lt_size z) ha)
  have up : ∀ {b : Addr}, b ≠ a → H1 b = none → upd H1 a (exo a C none) b = none := fun {b} hb n => by rw [upd_ne hb]; exact n
  have U : Un (frs X.stack) [] H1 (del H2 a) hp G := {
    keep := fun b o z n hf hx => by
      rw [gk b (nha z)]
      exact un.keep b o (k b o z) (up (nha z) n) hf hx
    slot := fun b o z n hf hx => by
      rw [gk b (nha z)]
      exact un.slot b o (k b o z) (up (nha z) n) hf hx
    free := fun b o z n hx => by
      rw [del_ne (nha z)]
      exact un.free b o (k b o z) (up (nha z) n) hx
    there := fun b o z hx => by
      rw [gk b (nha z)]
      exact un.there b o (k b o z) hx
    tups := fun b xs z => by
      rw [del_ne (ne_of_none z hn)]
      exact un.tups b xs (by rw [upd_ne (ne_of_none z hn)]; exact z)
    frzs := fun b o v z => by
      rw [del_ne (ne_of_none z hn)]
      exact un.frzs b o v (by rw [upd_ne (ne_of_none z hn)]; exact z)
    tbls := fun b ps z => by
      rw [del_ne (ne_of_none z hn)]
      exact un.tbls b ps (by rw [upd_ne (ne_of_none z hn)]; exact z) }
  have hok3 : HOk X.prog X.w (del H2 a) G := fun b o z => by
    have hba : b ≠ a := fun e => by
      rw [e, del_same] at z
      cases z
    rw [del_ne hba] at z
    have noa : ∀ {c : Addr}, H2 c = some (.own b) → c ≠ a := fun {c} hc => at_ne ea hc exo_own
    exact (hok b o z).stay (fun c v hc y => by
        have hca : c ≠ a := by
          rcases hc with hc | hc
          · rw [hc]
            exact hba
          · exact noa hc
        rw [gk c hca]
        exact y)
      (fun c hc => by rw [del_ne (noa hc)]; exact hc) (fun c xs hc => by rw [del_ne (at_ne ea hc exo_tup)]; exact hc)
  have J : Inv X pins σ (del H2 a) ⟨G, g2, d2, t2, os2⟩ := I1.call' (ch := []) ho U hok3 hb (fun b z => absurd z (by simp))
  have kG : ∀ b o, G.get? b = some o → h2.get? b = some o := fun b o z => by
    by_cases hba : b = a
    · rw [hba, ge] at z
      cases z
    · exact (gk b hba).symm.trans z
  exact ⟨a, _, _, ⟨G, g2, d2, t2, os2⟩, _, .ref C, none, rfl, J, kG, ge, hoe, ⟨rfl, rfl⟩, rfl, rfl, del_same, rfl, hb, T, q⟩
def tMkN (C : Addr) (sp : Sp) : L2.St → Hp → XK → Prop := fun _ H Q => ∀ a, H a = none → sp [.ref a] (upd H a (exo a C none)) (fun v H2 => v = .non ∧ H2 a = some (exo a C none) ∧ Q (.ref C) none (del H2 a)) (fun _ _ _ => False)
theorem pmk_oex0 {CX : CXT} {x : Str} {p pos : Pos} {C fI : Addr} {k : Nat} {fd : FuncData} {ps : List Str} {sp : Sp} (T : OexC X.K C) (iC : PySem.W.findIn X.K (.ref C) "__init__" = some (some (.ref fI))) (tI : PySem.W.typeIn X.K (.ref fI) = some (.type "function"))
    (F1 : FnOk X.prog X.w X.K X.mg X.base CX k fI fd ps sp) (hr : Room (k + 1) X.A) (hb : Binds X.K fd ps []) (hx : Passes CX X (fun _ _ _ => False)) (hg : Gl X x) (hm : X.mg x = some (.ref C)) (hdb : (x == ("__debug__" : Str)) = false := by decide) :
    PMk X (.Call (.Name x p) [] [] pos) (tMkN C sp) := by
  intro pins s σ H Q I h
  obtain ⟨nm, q, N, bs, bm, sn, sub, ab, col, dd, k0, k1, k2, k3, k5, hC, hbm⟩ := T.cls
  refine wpAny_Call_Name_kw (ld_glob I hg hm ?_ hdb)
  refine PySem.W.callWith_K0 I.kIn T.kC ?_
  show wpAny _ _ (call (.ref C) []) _ _ _
  obtain ⟨hp, g, dr, tk, os⟩ := s
  have hsz : hp.objs.size ≤ hp.objs.size + 1 := Nat.le_succ _
  have hq := h (hp.objs.size + 1) (I.hok.fresh hsz)
  have kk : ∀ b o, hp.get? b = some o → ((hp.push (PySem.W.kdv_tup [])).push (PySem.HandSPX.excO C hp.objs.size)).get? b = some o := fun b o e => Heap.get?_push_of_some _ (Heap.get?_push_of_some _ e)
  have hget : ((hp.push (PySem.W.kdv_tup [])).push (PySem.HandSPX.excO C hp.objs.size)).get? (hp.objs.size + 1) = some (PySem.HandSPX.excO C hp.objs.size) := by heap_get
  have I2 : Inv X pins σ (upd H (hp.objs.size + 1) (exo (hp.objs.size + 1) C none)) ⟨(hp.push (PySem.W.kdv_tup [])).push (PySem.HandSPX.excO C hp.objs.size), g, dr, tk, os⟩ :=
    I.laid (t' := tk) (a := hp.objs.size + 1) (o := exo (hp.objs.size + 1) C none) (h' := (hp.push (PySem.W.kdv_tup [])).push (PySem.HandSPX.excO C hp.objs.size)) kk hsz (exo_ok hget)
  have r2 : Vals [V.ref (hp.objs.size + 1)] [Value.ref (hp.objs.size + 1)] := .cons rfl .nil
  have hl : [Value.ref (hp.objs.size + 1)].length = ps.length := by
    have e := r2.length
    rw [F1.len _ _ _ _ hq] at e
    exact e.symm
  have hbb := hb _ [Value.ref (hp.objs.size + 1)] I2.kIn (by rw [List.append_nil]; exact hl)
  rw [List.append_nil] at hbb
  refine wpAny_call (PySem.HandSPX.call_own F.excBase_ValueError (fun Y => PySem.HandSPX.refsVE_contains Y bm hbm) (I.kIn _ _ hC) (PySem.W.looks_findIn I.kIn iC) (fun self => PySem.W.bind_fn I.kIn self tI) (by simp)
    (codeAny_mono (F1.run _ X.stack _ _ ⟨[Value.ref (hp.objs.size + 1)], []⟩ [Value.ref (hp.objs.size + 1)] _ _ (fun _ _ _ => False) (hr.make C [] []) (I2.env0.make C [] []) hbb r2 hq) fun r s' hq' => ?_))
  cases r with
  | error er => exact hx pins σ _ _ er s' I2 hq'
  | ok fl =>
    cases fl with
    | ret u =>
      obtain ⟨v, H2, os2, bare2, un2, hok2, rv, ev, ea, q2⟩ := hq'
      subst ev
      obtain ⟨h2, g2, d2, t2, os'⟩ := s'
      exact ⟨rv, mkN_end (raises_own T.exC T.tyC) I hsz kk un2 hok2 os2 bare2 ea q2⟩
    | next => exact False.elim hq'
    | brk => exact False.elim hq'
    | cont => exact False.elim hq'
end
end L2
namespace L3
open PySem PySem.Spec L2
open PyProof.Rows hiding St
def sRaise0 (c : Str) : GS := fun _ m => .ex ⟨c, [], []⟩ m
section
variable {X : Cx} {E : XK} {CX : CXT} {c : Str} {k : Nat} {p pos pos' : Pos}
theorem ds_raise0 (G : CalE0 X.prog X.w X.K X.mg X.base CX k c) (hc : X.calm = true) (tk : Takes X fun cls d _ H => E cls d H) (hr : Room (k + 1) X.A) (hx : Passes CX X (fun _ _ _ => False)) (hg : Gl X c) (hdb : (c == ("__debug__" : Str)) = false := by decide) (hke : c ≠ "KeyError" := by decide) :
    DS X E (.Raise (some (.Call (.Name c p) [] [] pos)) none pos') (sRaise0 c) := by
  obtain ⟨fI, fd, ps, F, T, iC, tI, hm, hb⟩ := G.ex
  refine psImp (ps_raise hc tk (pmk_oex0 T iC tI F hr hb hx hg hm hdb)) fun D σ H ⟨al, be, m, en, s, l, h⟩ => fun a ha => ⟨a, _, rfl, T, upd_same, ⟨rfl, upd_same, ?_⟩⟩
  have eH : del (upd H a (exo a (He.ga X.K c) none)) a = H := by
    funext b
    by_cases hb : b = a
    · subst hb; rw [del_same, ha]
    · rw [del_ne hb, upd_ne hb]
  rw [eH]
  exact h al H _ _ Chg.refl s (RX.mk hke ⟨rfl, rfl, rfl⟩)
end
end L3
namespace L2
open PySem PySem.Spec PyProof.Rows
section
variable {prog : Program} {w : World} {A : Around} {E : Value → Shared → Prop} {s : Shared} {K : PySem.W.Frag} {x C f : Addr} {ox : Obj} {odd : Option Obj}
theorem len_ownS {Q : Value → Shared → Prop} (X : K.In s.heap) (J : PySem.W.InstAt s.heap x ox C odd) (hs : PySem.W.findIn K (.ref C) "__len__" = some (some (.ref f))) (hf : PySem.W.typeIn K (.ref f) = some (.type "function"))
    (h : wpAny (model prog w) A.in1 (call (.ref f) [.ref x]) (fun r s₁ => ∃ (n : Int) (u : Tok), r = Value.int n u ∧ 0 ≤ n ∧ n < 2 ^ 63 ∧ Q (.int n s₁.toks) { s₁ with toks := s₁.toks + 1 }) E s) : wpAny (model prog w) A (call (.builtin "len") [.ref x]) Q E s := by
  refine Calls.call_function_entry kind_len plain_len entry_len (args_len1 _) ?_
  unfold Builtin.«len»
  refine wpAny_bind (m := oneArg "len" _) (wpAny_pure ?_)
  refine wpAny_bind (m := callSpecial? (.ref x) (PySem.Str.ofString "__len__")) (PySem.W.special_fn X J hs hf (wpAny_mono h (fun r s' hr => ?_) fun _ _ z => z))
  obtain ⟨n, u, rfl, h0, h1, hq⟩ := hr
  refine wpAny_bind (wpAny_holding (wpAny_pure ?_))
  refine wpAny_bind (wpAny_letGo ?_)
  show wpAny _ _ (if n < 0 then _ else _) _ _ _
  rw [if_neg (by omega)]
  show wpAny _ _ (if n ≥ 2 ^ 63 then _ else _) _ _ _
  rw [if_neg (by omega)]
  exact wpAny_bind (wpAny_mkInt (wpAny_pure ⟨_, rfl, hq⟩))
end
section
variable {X : Cx} {CX : CXT} {k : Nat} {C g : Addr} {fd : FuncData} {ps : List Str} {sp : Sp} {E : XK}
def rLenOwn (C : Addr) (sp : Sp) (E : XK) : List V → Hp → VK → Prop := fun xs H Q => ∃ a dx fs, xs = [V.ref a] ∧ H a = some (.ins C dx fs) ∧ sp [.ref a] H (fun z H' => ∃ i : Int, z = .int i ∧ 0 ≤ i ∧ i < 2 ^ 63 ∧ Q z H') E
theorem call_lenOwn (hs : PySem.W.findIn X.K (.ref C) "__len__" = some (some (.ref g))) (hf : PySem.W.typeIn X.K (.ref g) = some (.type "function")) (F : FnOk X.prog X.w X.K X.mg X.base CX k g fd ps sp) (hr : Room (k + 1) X.A) (hb : Binds X.K fd ps []) (hx : Passes CX X E) : CallR X (.builtin "len") (rLenOwn C sp E) := by
  intro pins s σ H xs us Q I r h
  obtain ⟨a, dx, fs, rfl, ha, q⟩ := h
  obtain ⟨u, rfl, ru⟩ := vals1 r
  obtain rfl : u = Value.ref a := ru
  obtain ⟨mA, O, _, _, _, _⟩ := ins_get I.hok ha
  obtain ⟨od, J, _⟩ := O.look
  have hl : ([Value.ref a] ++ []).length = ps.length := by
    rw [← F.len _ _ _ _ q]
    rfl
  refine len_ownS I.kIn J hs hf (wpAny_call (codeAny_mono (F.run X.A.in1 X.stack s H ⟨[.ref a], []⟩ [.ref a] [.ref a] _ E hr.in1 I.env0.in1 (hb _ [.ref a] I.kIn hl) (.cons rfl .nil) q) fun r s' hq => ?_))
  cases r with
  | error er => exact hx pins σ H s er s' I hq
  | ok fl =>
    cases fl with
    | ret u =>
      obtain ⟨v, H', I3, rv, i, ei, h0, h1, q3⟩ := I.after hq
      subst ei
      obtain ⟨t, rfl⟩ := rv
      exact ⟨i, t, rfl, h0, h1, .int i, H', I3.tok _, ⟨_, rfl⟩, q3⟩
    | next => exact False.elim hq
    | brk => exact False.elim hq
    | cont => exact False.elim hq
end
end L2
namespace L3
open PySem PySem.Spec L2
open PyProof.Rows hiding St
section
variable {K : PySem.W.Frag} {al be : List Addr} {H : Hp}
end
section
variable {K : PySem.W.Frag} {E : XK}
end
section
variable {X : Cx} {E : XK} {e : Expr} {es : List Expr} {g : GE} {gs : List GE} {pos : Pos}
end
section
variable {X : Cx} {E : XK} {tg e : Expr} {g : GE}
end
abbrev GWt := Sl → Sto → Out (Bool × Sl)
def tW3 (K : PySem.W.Frag) (E : XK) (g : GWt) : TTw := fun σ H Q => ∃ al be m en, SS K al be H m ∧ SL K al be H σ en ∧
  Post K al be H E (g en m) fun b al' H' _ => ∀ σ', SL K al' be H' σ' b.2 → Q b.1 σ' H'
abbrev DTw (X : Cx) (E : XK) (c : Expr) (g : GWt) : Prop := PTw X c (tW3 X.K E g)
structure DWw (X : Cx) (E : XK) (c : Expr) (g : GWt) : Prop where
  run : ∀ (whole : Sem Value) (pins : List (Addr × Obj)) (s : Shared) (σ : St) (H : Hp) (Q : Bool → St → Hp → Prop), Inv X pins σ H s → tW3 X.K E g σ H Q → wpAny (model X.prog X.w) X.A (isTrue c X.env whole) (TPw X pins Q) X.xe s
section
variable {X : Cx} {E : XK} {CX : CXT} {a b c e : Expr} {p q : List Stmt} {ga : GB} {gw : GWt} {g : GE} {sa sb : GS} {pos npos fpos cpos : Pos} {x f : Str} {k : Nat} {F : FM} {rest : List Expr}
theorem DWw.t (h : DWw X E c gw) : DTw X E c gw := ⟨h.run _⟩
end
end L3
namespace L2
open PySem PySem.Spec PyProof.Rows
section
variable {X : Cx} {CX : CXT} {k : Nat} {f C : Addr} {fd : FuncData} {ps : List Str} {sp : Sp} {E : St → XK} {x m : Str} {p pos apos : Pos} {e o : Expr} {es : List Expr} {ta : TE} {t : TA}
def tMethσ (C : Addr) (m : Str) (sp : Sp) (E : St → XK) (ta : TE) (t : TA) : TE := fun σ H Q => tMeth C m sp [] (E σ) ta t σ H Q
theorem pe_methσ {pl : Sem Bool} (he : PE X o ta) (c : Cls X.K C) (hm : Meth X.K C m f) (F : FnOk X.prog X.w X.K X.mg X.base CX k f fd ps sp) (hr : Room k X.A) (hb : Binds X.K fd ps []) (hx : ∀ σ, PassesAt CX X σ (E σ)) (ha : PA X (e :: es) t)
    (hst : starEach (e :: es) X.env = (false, eval e X.env) :: starEach es X.env := by rfl) (hpl : (backTo pos (starEach es X.env)).any (·.1) = false := by rfl)
    (ht : eval (.Call (.Attribute o m apos) (e :: es) [] pos) X.env = (do
      let ov ← eval o X.env
      standAt apos.atName
      let (f, first) ← holding [ov] (getMethod ov m pl)
      callWith pos f first (backTo pos (starEach (e :: es) X.env)) (backToKw pos (keywordEach [] X.env))) := by rfl) :
    PE X (.Call (.Attribute o m apos) (e :: es) [] pos) (tMethσ C m sp E ta t) := by
  refine ⟨fun pins s σ H Q I h => ?_⟩
  refine PySem.W.methodCall_KW (pl := pl) (thn (he.run pins s σ H _ I h) fun u s1 ⟨x, H1, I1, rx, a, dx, fs, ex, ea, l, q⟩ => ?_) ht
  subst ex
  obtain rfl : u = Value.ref a := rx
  refine getmeth_ok I1 ea c hm l ?_
  refine PySem.W.callWith_K (first := [.ref a]) (h₀ := X.base) I.ok.mod.kin hm.kp (thn (ha.run pos pins s1 σ H1 _ I1 q) fun us s2 ⟨vs, H2, I2, r, q2⟩ => ⟨I2.kIn, ?_⟩) hst hpl
  exact run_fnSD (us := .ref a :: us) (vs := .ref a :: vs) F hr hb .nil (hx σ) I2 (.cons rfl r) q2
theorem pe_meth0σ {pl : Sem Bool} (he : PE X o ta) (c : Cls X.K C) (hm : Meth X.K C m f) (F : FnOk X.prog X.w X.K X.mg X.base CX k f fd ps sp) (hr : Room k X.A) (hb : Binds X.K fd ps []) (hx : ∀ σ, PassesAt CX X σ (E σ))
    (ht : eval (.Call (.Attribute o m apos) [] [] pos) X.env = (do
      let ov ← eval o X.env
      standAt apos.atName
      let (f, first) ← holding [ov] (getMethod ov m pl)
      callWith pos f first (backTo pos (starEach [] X.env)) (backToKw pos (keywordEach [] X.env))) := by rfl) :
    PE X (.Call (.Attribute o m apos) [] [] pos) (tMethσ C m sp E ta tNil) := by
  refine ⟨fun pins s σ H Q I h => ?_⟩
  refine PySem.W.methodCall_KW (pl := pl) (thn (he.run pins s σ H _ I h) fun u s1 ⟨x, H1, I1, rx, a, dx, fs, ex, ea, l, q⟩ => ?_) ht
  subst ex
  obtain rfl : u = Value.ref a := rx
  refine getmeth_ok I1 ea c hm l ?_
  exact PySem.W.callWith_K0 (first := [.ref a]) I1.kIn hm.kp (run_fnSD (us := [.ref a]) (vs := [.ref a]) F hr hb .nil (hx σ) I1 (.cons rfl .nil) q)
end
end L2
namespace L3
open PySem PySem.Spec L2
open PyProof.Rows hiding St
section
variable {X : Cx} {E : St → XK} {CX : CXT} {k n : Nat} {c x : Str} {F : FM} {pos apos : Pos} {o e : Expr} {es : List Expr} {go : GE} {gs : GA}
theorem de_meth0σ {pl : Sem Bool} (ho : ∀ E : XK, DE X E o go) (G : CalM X.prog X.w X.K X.mg X.base CX k c x n F) (hr : Room k X.A) (hx : ∀ σ, PassesAt CX X σ (E σ))
    (ht : eval (.Call (.Attribute o x apos) [] [] pos) X.env = (do
      let ov ← eval o X.env
      standAt apos.atName
      let (f, first) ← holding [ov] (getMethod ov x pl)
      callWith pos f first (backTo pos (starEach [] X.env)) (backToKw pos (keywordEach [] X.env))) := by rfl) : DEσ X E (.Call (.Attribute o x apos) [] [] pos) (gMeth c x n F go aNil) := by
  obtain ⟨f, fd, ps, hf, hm, hc, hb⟩ := G.ex
  refine peImp (pe_meth0σ (ta := tGσ X.K E go) (de_σ ho) hc hm hf hr hb hx ht) fun σ H Q h => ?_
  have h := meth_imp (X := X) (E := E σ) σ H Q h
  unfold tMethσ
  unfold tMeth at h ⊢
  obtain ⟨al, be, m, en, s, l, h⟩ := h
  refine ⟨al, be, m, en, s, l, h.mono fun b al' H' m' c1 s1 q v rv => ?_⟩
  obtain ⟨a, dx, fs, e, h1, h2, al2, be2, m2, en2, s2, l2, h3⟩ := q v rv
  exact ⟨a, dx, fs, e, h1, h2, h3.now s2 _ RDs.nil⟩
end
def gNoX (g : GE) : GE := fun en m => match g en m with
  | .ex _ _ => .bad
  | o => o
theorem noX_imp {K : PySem.W.Frag} {E E1 : XK} {g : GE} : ∀ σ H Q, tG K E (gNoX g) σ H Q → tG K E1 g σ H Q := fun σ H Q ⟨al, be, m, en, s, l, h⟩ => ⟨al, be, m, en, s, l, by
  unfold gNoX at h
  cases e : g en m with
  | ok d m1 => rw [e] at h; exact h
  | ex x m1 => rw [e] at h; exact h.elim
  | bad => rw [e] at h; exact h⟩
theorem de_noX {X : Cx} {E E1 : XK} {e : Expr} {g : GE} (h : DE X E1 e g) : DE X E e (gNoX g) := peImp h noX_imp
section
variable {X : Cx} {E : XK} {CX : CXT} {k n : Nat} {c x : Str} {F : FM} {pos apos p : Pos} {o e : Expr} {es : List Expr} {go : GE} {gs : GA}
theorem de_propN (he : ∀ E : XK, DE X E e go) (G : CalP X.prog X.w X.K X.mg X.base CX k c x F) (hr : Room (k + 1) X.A) (hx : Passes CX X.nox E0) (hab : attributeBase e x X.env (eval e X.env) = eval e X.env := by rfl) : DE X E (.Attribute e x pos) (gNoX (gProp c F go)) := de_noX (de_prop (he E0) G hr hx hab)
end
def bLenO (c : Str) (F : FM) : FM := fun ds m => match ds with
  | [o] => (match insOf m o with
    | some (c', _) => if c' = c then (F [o] m).bind fun d m2 => (match d with
      | .int i => if 0 ≤ i ∧ i < 2 ^ 63 then .ok (.int i) m2 else .bad
      | _ => .bad)
      else .bad
    | none => .bad)
  | _ => .bad
theorem on_lenO {K : PySem.W.Frag} {E : XK} {c : Str} {F : FM} : OpN K E (bLenO c F) (rLenOwn (He.ga K c) (SpF K 1 F) E) := fun al be H m ds vs Q s r h => by
  unfold bLenO at h
  split at h
  · rename_i o
    split at h
    · rename_i c' fs ei
      split at h
      · rename_i hc
        subst hc
        obtain ⟨v0, rfl, rv⟩ := r.one
        · obtain ⟨a, dx, ws, rfl, hv, rvs⟩ := insOf_ok s rv ei
          exact ⟨a, dx, ws, rfl, hv, al, be, m, [o], s, RDs.cons rv RDs.nil, rfl, Post.bind h fun d al1 H1 m1 c1 s1 h1 v rv1 => by
            split at h1
            · rename_i i
              split at h1
              · rename_i hi
                obtain rfl := rd_int.mp rv1
                exact ⟨i, rfl, hi.1, hi.2, h1.now s1 _ rv1⟩
              · exact h1.elim
            · exact h1.elim⟩
      · exact h.elim
    · exact h.elim
  · exact h.elim
section
variable {X : Cx} {E : XK} {CX : CXT} {k n : Nat} {c x : Str} {F : FM} {pos apos p : Pos} {o e : Expr} {es : List Expr} {go : GE} {gs : GA}
theorem de_lenN (he : ∀ E : XK, DE X E e go) (G : CalM X.prog X.w X.K X.mg X.base CX k c "__len__" 1 F) (hr : Room (k + 1) X.A) (hx : Passes CX X E0) (hg : Gl X "len") (hb : X.mg "len" = none) (hv : bootBuiltins "len" = some (.builtin "len"))
    (hse : starEach [e] X.env = (false, eval e X.env) :: starEach [] X.env := by rfl) : DE X E (.Call (.Name "len" p) [e] [] pos) (gNoX (gB (bLenO c F) (aCons go aNil))) := by
  obtain ⟨f, fd, ps, hf, hm, hc, hbi⟩ := G.ex
  exact de_noX (de_b (call_lenOwn hm.at_ (beq_iff_eq.mp hm.fn) hf hr hbi hx) on_lenO hg hb hv (da_cons (he E0) da_nil hse) (by decide) (by decide) hse)
structure ConI (K : PySem.W.Frag) (mg : Str → Option Value) (c f : Str) (i : Int) : Prop where
  m : mg c = some (.ref (He.ga K c))
  r : ClX.CRead K (He.ga K c) (.type "type")
  v : ∃ t, ClX.CVal K (He.ga K c) (.type "type") f (.int i) (.int i t)
theorem de_conI {f : Str} {i : Int} (G : ConI X.K X.mg c f i) (hg : Gl X c) (hd : (c == ("__debug__" : Str)) = false := by decide) (hb : attributeBase (.Name c p) f X.env (eval (.Name c p) X.env) = eval (.Name c p) X.env := by rfl) : DE X E (.Attribute (.Name c p) f pos) (gC (.int i)) := by
  obtain ⟨t, v⟩ := G.v
  refine peImp (ClX.pe_cval (pe_glob (v := .ref (He.ga X.K c)) hg G.m rfl hd) hb) fun σ H Q h => ?_
  have h2 := tc_imp (X := X) (E := E) (v := V.int i) (d := D.int i) (fun _ _ _ => rd_int.mpr rfl) σ H Q h
  exact ⟨He.ga X.K c, .type "type", .int i, .int i t, rfl, G.r, v, h2⟩
end
end L3
namespace He
open PySem PySem.Spec PyProof.Rows L2
theorem prB_ok {K : PySem.W.Frag} {q : Str × Str} (h : prB K q = true) : PropOf K (ga K q.1) q.2 (prP K q) (prG q K) := by
  obtain ⟨h1, h⟩ := ba h
  obtain ⟨h2, h⟩ := ba h
  obtain ⟨h3, h4⟩ := ba h
  refine ⟨eqO_ok h1, eqO_ok h2, of_decide_eq_true h3, ?_⟩
  unfold prG
  split at h4
  · rename_i g rest e
    rw [e]
    exact ⟨rest, rfl⟩
  · cases h4
theorem ciB_ok {K : PySem.W.Frag} {mg : Str → Option Value} {q : Str × Str × Int} (h : ciB K q = true) (m : mg q.1 = some (.ref (ga K q.1))) : L3.ConI K mg q.1 q.2.1 q.2.2 := by
  obtain ⟨h1, h⟩ := ba h
  obtain ⟨h2, h3⟩ := ba h
  refine ⟨m, ⟨h1, eqO_ok h2⟩, ?_⟩
  split at h3
  · rename_i i t e
    obtain rfl : i = q.2.2 := of_decide_eq_true h3
    exact ⟨t, e, ⟨t, rfl⟩⟩
  · cases h3
section
variable {K : PySem.W.Frag} {pr : List (Str × Str)} {co : List (Str × Str × Int)} {ap : List He5.DefA}
theorem pool_pr (h : poolB pr co ap K = true) {q : Str × Str} (hm : q ∈ pr) : PropOf K (ga K q.1) q.2 (prP K q) (prG q K) := prB_ok (List.all_eq_true.mp (ba h).1 q hm)
theorem pool_co (h : poolB pr co ap K = true) {mg : Str → Option Value} {q : Str × Str × Int} (hm : q ∈ co) (m : mg q.1 = some (.ref (ga K q.1))) : L3.ConI K mg q.1 q.2.1 q.2.2 := ciB_ok (List.all_eq_true.mp (ba (ba h).2).1 q hm) m
end
section
variable {fa : List Fa} {fn : List DefD} {ex : PySem.W.Frag → Bool} {ap : List He5.DefA} {K : PySem.W.Frag}
theorem SaysP.e (c : SaysP fa fn ex ap K) : SaysErr fa fn ex K := congrArg (fun z : AlP => z.1) c
theorem SaysP.ap_ (c : SaysP fa fn ex ap K) (i : Nat) (ok : ap.all (fun d => d.ok K) = true) {d : He5.DefA} (h : ap[i]? = some d := by rfl) : ∃ fd, FunD K d.name d.qual d.params d.body d.scope (d.dvs K) (d.kws K) (d.at_ K) fd := by
  have e : ap.map (fun d => He5.fnA K (d.at_ K)) = ap.map He5.DefA.val := congrArg (fun z : AlP => z.2) c
  have e2 : (ap.map fun d => He5.fnA K (d.at_ K))[i]? = (ap.map He5.DefA.val)[i]? := by rw [e]
  rw [List.getElem?_map, List.getElem?_map, h] at e2
  exact He5.DefA.funD (Option.some.inj e2) (List.all_eq_true.mp ok d (List.mem_of_getElem? h))
end
end He
namespace L3
open PySem PySem.Spec L2
open PyProof.Rows hiding St
section
variable {X : Cx} {E : St → XK} {CX : CXT} {k k0 k1 n : Nat} {x y nm : Str} {F0 F1 : FM} {p p1 p2 pl psub pos pos2 : Pos} {e ie : Expr} {es : List Expr} {gs : GA} {gi : GE} {ns : List Str}
end
section
variable {X : Cx} {E : St → XK} {st : Stmt} {sts : List Stmt} {g h : GS} {pos : Pos}
theorem ds_ifσ {c : Expr} {a b : List Stmt} {gc : GB} {ga gb : GS} (hc : ∀ E0 : XK, DB X E0 c gc) (ha : DSsσ X E a ga) (hb : DSsσ X E b gb) : DSσ X E (.If c a b pos) (sIf gc ga gb) := by
  have hc' : PT X c (fun σ H Q => tB3 X.K (E σ) gc σ H Q) := ⟨fun pins s σ H Q I q => (hc (E σ)).run pins s σ H Q I q⟩
  exact psImp (ps_if hc' ha hb) fun D σ H ⟨al, be, m, en, s, l, h⟩ => ⟨al, be, m, en, s, l, PostS.ofOut h fun k al1 H1 m1 c1 s1 h1 => by
    cases k with
    | true => exact ⟨al1, be, m1, en, s1, l.chg c1, h1⟩
    | false => exact ⟨al1, be, m1, en, s1, l.chg c1, h1⟩⟩
end
end L3
namespace L3
open PySem PySem.Spec L2
open PyProof.Rows hiding St
def sTryN (sub : Str → Str → Option Bool) (cl : List (Str × Option Nat × GS)) (gb : GS) : GS := fun en m => match gb en m with
  | .ex x m1 => if x.c = "KeyError" then .bad else hTryN sub cl x en m1
  | o => o
section
variable {X : Cx} {E : XK} {sub : Str → Str → Option Bool} {pos : Pos}
theorem hTryN_okE {al al' be : List Addr} {H H' : Hp} {m1 : Sto} {σ : St} {en : Sl} {D : Ends} {x : Exn} {c : Value} {dx : Option Addr} (ch : Chg al H al' H') (s : SS X.K al' be H' m1) (l : SL X.K al' be H' σ en) (hk : x.c ≠ "KeyError") (rx : RX X.K al' be H' c dx x) :
    ∀ {hds : List ExceptHandler} {cl : List (Str × Option Nat × GS)}, HdN X sub hds cl → PostS X.K al be H E (hTryN sub cl x en m1) D → wTr X.K (fun cls d _ H => E cls d H) D (clN X.K cl) c dx σ H'
  | _, _, .nil, h => h al' H' c dx ch s rx
  | _, _, @HdN.cons _ _ xn n cn i gs b₀ suite np pos' hds2 l2 hi hln hc hsub hsu r, h => by
    unfold hTryN at h
    show ∃ b, _
    cases hb : sub x.c cn with
    | none => rw [hb] at h; exact h.elim
    | some b =>
      rw [hb] at h
      have ec : c = .ref (He.ga X.K x.c) := (rx.own hk).1
      refine ⟨b, by rw [ec]; exact hsub _ _ hb, fun e => ?_, fun e => ?_⟩
      · subst e
        simp only at h
        refine .inl ⟨_, ec, fun a na => ?_⟩
        have chg2 : Chg al' H' al' (upd H' a (exg a (He.ga X.K x.c) dx)) := Chg.ext (ext_upd na)
        have s2 := s.upd (o := exg a (He.ga X.K x.c) dx) na
        obtain ⟨n1, n2⟩ := s.notNew na
        have rd : RD X.K al' be (upd H' a (exg a (He.ga X.K x.c) dx)) (.exc x.c x.ns x.ds) (.ref a) := by
          obtain ⟨_, q⟩ := rx.own hk
          cases dx with
          | none =>
            obtain ⟨q1, q2⟩ := q
            unfold RD
            exact ⟨a, none, [], rfl, ⟨upd_same, n1, n2⟩, ⟨nofun, fun _ => rfl⟩, by rw [q1]; rfl, by rw [q2]; exact RDs.nil⟩
          | some d =>
            obtain ⟨fs, f1, f2, f3⟩ := q
            unfold RD
            exact ⟨a, some d, fs, rfl, ⟨upd_same, n1, n2⟩, ⟨fun dx e => by cases e; exact chg2.fz f1, nofun⟩, f2, chg2.rds f3⟩
        refine ⟨al', be, m1, _, s2, (l.chg chg2).set i rd, ?_⟩
        have h2 := PostS.chg h (ch.trans chg2)
        show PostS X.K al' be _ E0 (gs (en.set i (some (.exc x.c x.ns x.ds))) m1) (goneD i D)
        cases eo : gs (en.set i (some (.exc x.c x.ns x.ds))) m1 with
        | nx en2 m2 => rw [eo] at h2; exact fun a3 H3 σ3 c3 s3 l3 => h2 a3 H3 _ c3 s3 (SL.unset l3 i)
        | bk en2 m2 => rw [eo] at h2; exact fun a3 H3 σ3 c3 s3 l3 => h2 a3 H3 _ c3 s3 (SL.unset l3 i)
        | ct en2 m2 => rw [eo] at h2; exact fun a3 H3 σ3 c3 s3 l3 => h2 a3 H3 _ c3 s3 (SL.unset l3 i)
        | rt d m2 => rw [eo] at h2; exact h2
        | ex x2 m2 => rw [eo] at h2; exact h2.elim
        | bad => rw [eo] at h2; exact h2.elim
      · subst e
        exact hTryN_okE ch s l hk rx r h
  | _, _, @HdN.consN _ _ xn cn gs b₀ suite np pos' hds2 l2 hc hsub hsu r, h => by
    unfold hTryN at h
    show ∃ b, _
    cases hb : sub x.c cn with
    | none => rw [hb] at h; exact h.elim
    | some b =>
      rw [hb] at h
      have ec : c = .ref (He.ga X.K x.c) := (rx.own hk).1
      refine ⟨b, by rw [ec]; exact hsub _ _ hb, fun e => ?_, fun e => ?_⟩
      · subst e
        simp only at h
        refine .inl ⟨_, ec, fun a na => ?_⟩
        have chg2 : Chg al' H' al' (upd H' a (exg a (He.ga X.K x.c) dx)) := Chg.ext (ext_upd na)
        have s2 := s.upd (o := exg a (He.ga X.K x.c) dx) na
        refine ⟨al', be, m1, _, s2, l.chg chg2, ?_⟩
        have h2 := PostS.chg h (ch.trans chg2)
        show PostS X.K al' be _ E0 (gs en m1) D
        cases eo : gs en m1 with
        | nx en2 m2 => rw [eo] at h2; exact h2
        | bk en2 m2 => rw [eo] at h2; exact h2
        | ct en2 m2 => rw [eo] at h2; exact h2
        | rt d m2 => rw [eo] at h2; exact h2
        | ex x2 m2 => rw [eo] at h2; exact h2.elim
        | bad => rw [eo] at h2; exact h2.elim
      · subst e
        exact hTryN_okE ch s l hk rx r h
theorem ds_tryN {body : List Stmt} {h₀ : ExceptHandler} {hds : List ExceptHandler} {cl : List (Str × Option Nat × GS)} {gb : GS} (hs : X.stack = X.env :: X.outer) (hf : X.env.frame = some X.env.locals) (hN : X.N.Nodup) (tk : Takes X fun cls d _ H => E cls d H)
    (hb : ∀ (E' : St → XK) (pn : List (Addr × Obj)) (xe : Value → Shared → Prop), (∀ σ, PassesAt (L2.CX X.prog X.w) (X.tr pn xe) σ (E' σ)) → PassesOwn (model X.prog X.w) X.A X.env xe → DSsσ (X.tr pn xe) E' body gb)
    (hh : HdN X sub (h₀ :: hds) cl) : DS X E (.Try body (h₀ :: hds) [] [] pos) (sTryN sub cl gb) := by
  refine psImp (ps_tryT hs hf hN tk (tb := fun W => tSσ X.K (WE W) gb) (fun W pn xe tkW po => hb (WE W) pn xe (fun σ => passAt tkW σ) po) hh.toT) fun D σ H ⟨al, be, m, en, s, l, h⟩ => ?_
  refine ⟨al, be, m, en, s, l, ?_⟩
  unfold sTryN at h
  cases eo : gb en m with
  | ex x m1 =>
    rw [eo] at h
    by_cases hk : x.c = "KeyError"
    · dsimp only at h
      rw [if_pos hk] at h
      exact h.elim
    · dsimp only at h
      rw [if_neg hk] at h
      exact fun al' H' c dx ch s1 rx => hTryN_okE ch s1 (l.chg ch) hk rx hh h
  | nx en2 m2 => rw [eo] at h; exact h
  | bk en2 m2 => rw [eo] at h; exact h
  | ct en2 m2 => rw [eo] at h; exact h
  | rt d m2 => rw [eo] at h; exact h
  | bad => rw [eo] at h; exact h
end
end L3
namespace L3
open PySem PySem.Spec PySem.W L2
structure FnM (P : Program) (w : World) (K : PySem.W.Frag) (mg : Str → Option Value) (base : Heap) (CX : CXT) (k : Nat) (f : Addr) (fd : FuncData) (ps : List Str) (sp : Sp) : Prop where
  len : ∀ vs H Q E, sp vs H Q E → vs.length = ps.length
  run : ∀ (A : Around) (outer : List Env) (s : Shared) (H : Hp) (args : Args) (us : List Value) (vs : List V) (Q : VK) (E : XK) (p : Addr × Obj), L2H.RoomH k A → L2H.PinOk outer H s p → Env0 P w K mg base A outer s H → BindsTo s fd args (ps.zip us) → Vals vs us → sp vs H Q E →
    codeAny (model P w) A (.call (.ref f) args) (CR CX outer P w H s Q E) s
theorem fn_ofM {CX : CXT} {P : Program} {w : World} {K : PySem.W.Frag} {mg : Str → Option Value} {base : Heap} {k : Nat} {f : Addr} {name qual : Str} {params : Arguments} {body : List Stmt} {scope : Scope} {dV kV doc pm cdv ct oc : Value} {an od : Option Addr}
    {osl : Array (Option Value)} {N ps : List Str} {sp : Sp} (lk : K.lookup f = some ⟨oc, od, .func (PySem.W.fnOf name qual params body scope dV kV doc pm an cdv ct), osl⟩) (hcd : PySem.W.codeIn K cdv qual = true) (S : FnScope N ps scope)
    (len : ∀ vs H Q E, sp vs H Q E → vs.length = ps.length)
    (hbody : ∀ (A : Around) (outer : List Env) (s : Shared) (H : Hp) (vs : List V) (Q : VK) (E : XK) (p : Addr × Obj), L2H.RoomH k (A.deeper (PyProof.Rows.envOfC qual scope s.heap.objs.size f cdv)) → sp vs H Q E →
      ∃ t, PSs (L2H.cxH CX P w K mg base N qual scope f cdv A outer s H E p) body t ∧ t { nx := fun _ H' => Q .non H', rt := Q } (L2.start N vs) H) :
    FnM P w K mg base CX (k + 1) f (PySem.W.fnOf name qual params body scope dV kV doc pm an cdv ct) ps sp := by
  refine ⟨len, fun A outer s H args us vs Q E p hr hpin e0 hb r hsp => ?_⟩
  have hl := len _ _ _ _ hsp
  have KX : K.In s.heap := e0.mod.kin.keeps fun b o e => (e0.bs b o e).1
  have lim : s.heap.NoLimit := e0.mod.nolimit.keeps fun b o e => (e0.bs b o e).1
  have hkind : ∀ y ∈ ps.zip us, scope.names.lookup y.1 = some .local ∨ (scope.names.lookup y.1 = some .cell ∧ ((cellsFrom (s.heap.objs.size + 1) scope.names []).lookup y.1).isSome = true) := fun ⟨n, v⟩ hy => by
    rcases S.par n (List.of_mem_zip hy).1 with q | q
    · exact .inl q
    · exact .inr ⟨q, PySem.W.cellsFrom_some _ _ _ (.inl q)⟩
  refine codeAny_call_function hr.depth (KX _ _ lk) rfl S.co S.gen rfl (PySem.W.codeRec_of KX hcd) (hb _ _ _ _ ?_)
  refine wpAny_newFunctionEnv_cells S.kind hkind fun env he s1 x => ?_
  subst he
  refine ⟨lim.keeps x.toInCall.keep, codeAny_func ?_⟩
  obtain ⟨t, ht, hq⟩ := hbody A outer s H vs Q E p (hr.deeper _) hsp
  have I : Inv (L2H.cxH CX P w K mg base N qual scope f cdv A outer s H E p) [] (L2.start N vs) H s1 := L2H.inv_startH S hpin e0 hl r x
  refine wpAny_mono (ht.run [] s1 (L2.start N vs) H _ I hq) (fun fl s' hs => ?_) fun e s' hs => hs
  have fin : ∀ {σ' : L2.St} {H' : Hp} {v : V} {u : Value}, Inv (L2H.cxH CX P w K mg base N qual scope f cdv A outer s H E p) [] σ' H' s' → RelV v u → Q v H' → CE outer P w H s Q u s' :=
    fun {σ' H' v u} J rv q => ⟨v, H', J.os, J.bare, J.base, J.hok, rv, q⟩
  cases fl with
  | ret u =>
    obtain ⟨v, σ', H', J, rv, q⟩ := hs
    exact fin J rv q
  | next =>
    obtain ⟨σ', H', J, q⟩ := hs
    exact fin (v := V.non) (u := Value.none) J rfl q
  | brk =>
    obtain ⟨_, _, _, q⟩ := hs
    exact False.elim q
  | cont =>
    obtain ⟨_, _, _, q⟩ := hs
    exact False.elim q
def WithRaised (prog : Program) (w : World) (A : Around) (E : Value → Shared → Prop) (env : Env) (x fx : Addr) (Q : Flow → Shared → Prop) (e : Value) (s : Shared) : Prop :=
  wpAny (model prog w) A (noteFrame e env) (fun _ s₀ => e ≠ byPass ∧ wpAny (model prog w) A (setFlight e none) (fun _ s₁ =>
    wpAny (model prog w) A (typeOf e) (fun T s₂ => wpAny (model prog w) A (tracebackOf e) (fun tb s₃ =>
      codeAny (model prog w) (A.mark (some e)) (.call (.ref fx) ⟨[.ref x, T, e, tb], []⟩) (fun r s₄ => match r with
        | .ok (.ret v) => v = .none ∧ wpAny (model prog w) A (passOn "with" e env) Q E s₄
        | .ok _ => False
        | .error _ => False) s₃) E s₂) E s₁) E s₀) E s
section
variable {prog : Program} {w : World} {A : Around} {E : Value → Shared → Prop} {s : Shared} {env : Env} {K : Frag} {x C fe fx : Addr} {ox : Obj} {od : Option Obj} {pos : Pos}
theorem with_raw {b : Value → Sem Unit} {bdy : Sem Flow} {Q : Flow → Shared → Prop} (X : K.In s.heap) (I : PySem.W.InstAt s.heap x ox C od) (he : findIn K (.ref C) "__enter__" = some (some (.ref fe))) (hfe : isFn K (.ref fe) = true) (hx : findIn K (.ref C) "__exit__" = some (some (.ref fx))) (hfx : isFn K (.ref fx) = true)
    (h : wpAny (model prog w) A (call (.ref fe) [.ref x]) (fun v s₂ => wpAny (model prog w) A (do b v; bdy) (fun f s₄ => wpAny (model prog w) A (call (.ref fx) [.ref x, .none, .none, .none]) (fun _ s₅ => Q f s₅) E s₄) (WithRaised prog w A E env x fx Q) s₂) E s) :
    wpAny (model prog w) A (withItem false pos env (pure (.ref x)) (some b) bdy) Q E s := by
  obtain ⟨cd, hcd, ae⟩ := kw_along he
  obtain ⟨cd', hcd', ax⟩ := kw_along hx
  cases hcd.symm.trans hcd'
  obtain ⟨hh, g, d, tt, os⟩ := s
  have L1 : Looks (model prog w) hh (specialOnItsLine (.ref x) "__enter__") (some (.ref fe), cd.mro) := kw_special X I hcd ae
  have L2 : Looks (model prog w) hh (specialOnItsLine (.ref x) "__exit__") (some (.ref fx), cd.mro) := kw_special X I hcd ax
  have L3 : Looks (model prog w) hh (bindSpecial (.ref fe) (.ref x)) (.ref fe, [.ref x]) := bind_fn X _ (beq_iff_eq.mp hfe)
  have L4 : Looks (model prog w) hh (bindSpecial (.ref fx) (.ref x)) (.ref fx, [.ref x]) := bind_fn X _ (beq_iff_eq.mp hfx)
  have L5 : Looks (model prog w) hh (aMethodOfAnotherBuiltinTypeStops (.ref fe) cd.mro) () := Looks.of_pure rfl
  have L6 : Looks (model prog w) hh (aMethodOfAnotherBuiltinTypeStops (.ref fx) cd.mro) () := Looks.of_pure rfl
  unfold withItem
  refine wpAny_bind (wpAny_pure ?_)
  refine wpAny_bind (wpAny_standAt ?_)
  simp only [Bool.false_eq_true, if_false]
  kw_lk
  refine wpAny_mono h (fun v s₂ h₂ => ?_) fun _ _ z => z
  kw_lk
  refine wpAny_attempt (kw_held ?_)
  show wpAny _ _ (b v >>= fun _ => bdy) _ _ _
  refine wpAny_mono h₂ (fun f s₄ h₄ => ?_) (fun e s₄ h₄ => ?_)
  · kw_lk
    refine wpAny_mono h₄ (fun _ s₅ h₅ => ?_) fun _ _ z => z
    kw_lk
    exact h₅
  · refine wpAny_bind (wpAny_mono h₄ (fun _ s₅ ⟨hb, h₅⟩ => ?_) fun _ _ z => z)
    refine wpAny_bind (wpAny_mono h₅ (fun _ s₆ h₆ => ?_) fun _ _ z => z)
    refine wpAny_bind (wpAny_standAt ?_)
    refine wpAny_holding ?_
    refine wpAny_bind (wpAny_mono h₆ (fun T s₇ h₇ => ?_) fun _ _ z => z)
    refine wpAny_bind (wpAny_mono h₇ (fun tb s₈ h₈ => ?_) fun _ _ z => z)
    unfold withItem.marked
    refine wpAny_bind (wpAny_bind (wpAny_run (codeAny_mono h₈ fun r s₉ h₉ => ?_) (by intro z; exact hb (Option.some.inj z))))
    cases r with
    | error e' => exact h₉.elim
    | ok f =>
      cases f with
      | ret v =>
        obtain ⟨rfl, h₉⟩ := h₉
        refine wpAny_pure (wpAny_bind (wpAny_pure ?_))
        first | exact h₉ | (simp only [Bool.false_eq_true, if_false]; exact h₉)
      | next => exact h₉.elim
      | brk => exact h₉.elim
      | cont => exact h₉.elim
end
def wWith (sp : Sp) (x : Addr) (E : XK) (Wout : WX) : WX := fun cls d σ H => ∃ kv : V, RelV kv cls ∧ ∀ ev tv : V, sp [.ref x, kv, ev, tv] H (fun v H2 => v = .non ∧ Wout cls d σ H2) E
section
variable {X : Cx} {CX : CXT} {k : Nat} {x fx : Addr} {fd : FuncData} {ps : List Str} {sp : Sp} {E : XK} {Wout : WX}
theorem with_exc {xe : Value → Shared → Prop} {pins : List (Addr × Obj)} {D : Ends} {u : Value} {s' : Shared} (hs : X.stack = X.env :: X.outer) (hf : X.env.frame = some X.env.locals) (hex : X.ex = []) (ok : X.Ok) (tk : Takes X Wout)
    (F : FnM X.prog X.w X.K X.mg X.base CX k fx fd ps sp) (hr : Room k X.A) (hb : Binds X.K fd ps []) (hx : ∀ (a : Addr) (pn : List (Addr × Obj)), Passes CX (X.suite a pn) E)
    (xx : XE (X.tr (X.pn ++ pins) xe) (wWith sp x E Wout) u s') : WithRaised X.prog X.w X.A X.xe X.env x fx (SP X pins D) u s' := by
  have hfr : X.A.frames = some (X.env :: X.outer) := by rw [ok.frames, hs]
  obtain ⟨a, B, sI, pins', σ', H', cls, d, rfl, J', nb, up, sky, na, os, ag, kv, rkv, hw⟩ := xx
  have J : Inv X pins σ' H' sI := J'.ofTry ok
  have sky' : Sky B (X.env :: X.outer) a (Zc cls d) X.env.locals s'.heap := by rw [← hs]; exact sky
  have fin : ∀ h1, HandSPX.HeldZ B (X.env :: X.outer) a (Zc cls d) X.env.locals h1 → s'.heap.UpToSlots h1 →
      (Value.ref a ≠ byPass) ∧ wpAny (model X.prog X.w) X.A (setFlight (.ref a) none) (fun _ s₁ => wpAny (model X.prog X.w) X.A (typeOf (.ref a)) (fun T s₂ => wpAny (model X.prog X.w) X.A (tracebackOf (.ref a)) (fun tb s₃ =>
        codeAny (model X.prog X.w) (X.A.mark (some (.ref a))) (.call (.ref fx) ⟨[.ref x, T, .ref a, tb], []⟩) (fun r s₄ => match r with
          | .ok (.ret v) => v = .none ∧ wpAny (model X.prog X.w) X.A (passOn "with" (.ref a) X.env) (SP X pins D) X.xe s₄
          | .ok _ => False
          | .error _ => False) s₃) X.xe s₂) X.xe s₁) X.xe { s' with heap := h1 } := fun h1 hh1 up1 => by
    refine ⟨ref_ne_byPass a, HandSPX.landsZ hh1 fun h3 fl3 up3 => ?_⟩
    have J3 : Inv X pins σ' H' { s' with heap := h3 } := J.landed nb fl3.1 ((up.trans up1).trans up3) os ag
    obtain ⟨k1, k2, k3, oe, vs, T, oT, ts, he3, hz, hd, hv1, hnT, hTe, hT, hdT, ht3⟩ := id fl3
    have nT : H' T = none := (J.inGround nb).gone hnT
    have notFr : ∀ (b : Addr) (o : Obj) (fv : Array Value), h3.get? b = some o → o.data = .fields fv → b ∉ frs (X.env :: X.outer) := fun b o fv e dd hm => by
      obtain ⟨_, o', e', hnf⟩ := k3.mem hm
      rw [Option.some.inj (e.symm.trans e')] at dd
      exact hnf _ dd
    have locF : X.env.locals ∈ frs (X.env :: X.outer) := List.mem_filterMap.mpr ⟨X.env, List.mem_cons_self, hf⟩
    have fsF : ∀ b, b ∈ X.fs → b ∈ frs (X.env :: X.outer) := fun b hm => by
      obtain ⟨e, he, q⟩ := List.mem_filterMap.mp hm
      exact List.mem_filterMap.mpr ⟨e, List.mem_cons_of_mem _ he, q⟩
    have fa := notFr a oe vs he3 hd
    have fT := notFr T oT ts hT hdT
    have pinOk : ∀ (b : Addr) (o : Obj) (fv : Array Value), h3.get? b = some o → o.data = .fields fv → H' b = none → b ∉ frs (X.env :: X.outer) →
        h3.get? b = some o ∧ H' b = none ∧ b ≠ X.env.locals ∧ b ∉ X.fs ∧ ∀ v, o.data ≠ .cell v := fun b o fv e dd n f =>
      ⟨e, n, fun z => f (by rw [z]; exact locF), fun z => f (fsF _ z), fun v z => by rw [dd] at z; cases z⟩
    have S3 : Inv (X.suite a ((a, oe) :: (T, oT) :: (X.pn ++ pins))) [] σ' H' { s' with heap := h3 } :=
      ⟨J3.ok.suite _ _, J3.os, J3.bare, J3.base, J3.loc, J3.cell, J3.free, J3.freeC, fun p hp => by
        rw [List.append_nil] at hp
        rcases List.mem_cons.mp hp with z | hp
        · subst z
          exact pinOk a oe vs he3 hd na fa
        · rcases List.mem_cons.mp hp with z | hp
          · subst z
            exact pinOk T oT ts hT hdT nT fT
          · exact J3.pin p hp, J3.hok, J3.len⟩
    have after : ∀ (r : Result) (s6 : Shared) (tbv : V), CR CX X.stack X.prog X.w H' { s' with heap := h3 } (fun v H2 => v = .non ∧ Wout cls d σ' H2) E r s6 → (match r with
          | .ok (.ret v) => v = .none ∧ wpAny (model X.prog X.w) X.A (passOn "with" (.ref a) X.env) (SP X pins D) X.xe s6
          | .ok _ => False
          | .error _ => False) := fun r s6 tbv hq => by
      cases r with
      | error e => exact (hx a ((a, oe) :: (T, oT) :: (X.pn ++ pins)) [] σ' H' _ e s6 S3 hq).elim
      | ok f =>
        cases f with
        | next => exact hq.elim
        | brk => exact hq.elim
        | cont => exact hq.elim
        | ret u =>
          obtain ⟨v, H6, S6, rv, e, q6⟩ := S3.after hq
          subst e
          refine ⟨rv, ?_⟩
          have J6 : Inv X pins σ' H6 s6 := ⟨ok, S6.os, S6.bare, S6.base, S6.loc, S6.cell, S6.free, S6.freeC, fun p hp => S6.pin p (List.mem_append_left _ (List.mem_cons_of_mem _ (List.mem_cons_of_mem _ hp))), S6.hok, S6.len⟩
          obtain ⟨ga, na6, _⟩ := S6.pin (a, oe) (List.mem_append_left _ List.mem_cons_self)
          obtain ⟨gT, nT6, _⟩ := S6.pin (T, oT) (List.mem_append_left _ (List.mem_cons_of_mem _ List.mem_cons_self))
          have far : ∀ b o, sI.heap.get? b = some o → b ≠ a ∧ b ≠ T := fun b o e => by
            by_cases hb : b ∈ frs X.stack
            · rw [hs] at hb
              exact ⟨fun z => fa (z ▸ hb), fun z => fT (z ▸ hb)⟩
            · have q := nb b o e hb
              exact ⟨fun z => by
                rw [z, k2] at q
                exact (nomatch q), fun z => by
                rw [z, hnT] at q
                exact (nomatch q)⟩
          have far0 : ∀ b o, X.s_0.heap.get? b = some o → b ≠ a ∧ b ≠ T := fun b o e => by
            obtain ⟨o', q⟩ := J.base.there b o e (by rw [hex]; simp)
            exact far b o' q
          obtain ⟨G, g1, g2⟩ := restrict s6.heap fun b => !(decide (b = a) || decide (b = T))
          have gIn : ∀ b o, G.get? b = some o → s6.heap.get? b = some o ∧ b ≠ a ∧ b ≠ T := fun b o e => by
            cases q : (!(decide (b = a) || decide (b = T))) with
            | false => exact (nomatch (g2 b q).symm.trans e)
            | true =>
              refine ⟨(g1 b q).symm.trans e, ?_⟩
              simp only [Bool.not_eq_true', Bool.or_eq_false_iff, decide_eq_false_iff_not] at q
              exact q
          have gOf : ∀ b o, b ≠ a → b ≠ T → s6.heap.get? b = some o → G.get? b = some o := fun b o h1 h2 e => by
            rw [g1 b (by simp [h1, h2])]
            exact e
          have I6 : Inv X pins σ' H6 { s6 with heap := G } := J6.less (fun b o e => (gIn b o e).1) gOf ⟨oe, vs, ga, hd⟩ ⟨oT, ts, gT, hdT⟩ na6 nT6 far0 fun p hp => far p.1 p.2 (J.pin p hp).1
          have Bno : ∀ b, (b = a ∨ b = T) → (PySem.W.hideAll G (frs X.stack)).get? b = none := fun b hb => by
            cases q : (PySem.W.hideAll G (frs X.stack)).get? b with
            | none => rfl
            | some o =>
              obtain ⟨_, n1, n2⟩ := gIn b o (PySem.W.of_hideAll _ q)
              exact (hb.elim n1 n2).elim
          have ff := funFrames_none (B := PySem.W.hideAll G (frs X.stack)) J6.stack fun b hb => PySem.W.hideAll_none _ hb
          rw [hs] at ff
          have fl6 : HandSPX.FlyingZ (PySem.W.hideAll G (frs X.stack)) (X.env :: X.outer) a (Zc cls d) s6.heap :=
            ⟨fun b o e => (gIn b o (PySem.W.of_hideAll _ e)).1, Bno a (.inl rfl), by rw [hs]; exact ff, oe, vs, T, oT, ts, ga, hz, hd, hv1, Bno T (.inr rfl), hTe, gT, hdT, ht3⟩
          unfold PySem.passOn
          refine wpAny_bind (wpAny_field ga hd hv1 ?_)
          rw [if_neg (show ¬ ((Value.ref T == Value.none) = true) from by simp)]
          have goOn : wpAny (model X.prog X.w) X.A (setFlight (.ref a) X.env.frame) (fun _ s7 => wpAny (model X.prog X.w) X.A (throw (.ref a) : Sem Flow) (SP X pins D) X.xe s7) X.xe s6 := by
            rw [hf]
            refine HandSPX.setFlight_upZ fl6 fun h7 hh7 up7 => wpAny_throw (tk _ _ ?_)
            refine ⟨a, PySem.W.hideAll G (frs X.stack), { s6 with heap := G }, pins, σ', H6, cls, d, rfl, I6, fun b o e hb => PySem.W.hideAll_get _ e hb, ?_, .inr (.inr (by rw [← hs] at hh7; exact hh7)), na6, rfl, J6.bare, q6⟩
            exact Heap.UpToSlots.trans (Heap.UpToSlots.of_keeps fun b o e => (gIn b o e).1) up7
          first
            | exact wpAny_bind (wpAny_pure (wpAny_bind goOn))
            | exact wpAny_bind goOn
    have go : ∀ (tb : Value) (tbv : V), RelV tbv tb → codeAny (model X.prog X.w) (X.A.mark (some (.ref a))) (.call (.ref fx) ⟨[.ref x, cls, .ref a, tb], []⟩) (fun r s₄ => match r with
          | .ok (.ret v) => v = .none ∧ wpAny (model X.prog X.w) X.A (passOn "with" (.ref a) X.env) (SP X pins D) X.xe s₄
          | .ok _ => False
          | .error _ => False) { s' with heap := h3 } := fun tb tbv rtb => by
      have h := hw (.ref a) tbv
      have rv : Vals [.ref x, kv, .ref a, tbv] [.ref x, cls, .ref a, tb] := .cons rfl (.cons rkv (.cons rfl (.cons rtb .nil)))
      have hl : ([.ref x, cls, .ref a, tb] ++ ([] : List Value)).length = ps.length := by
        rw [List.append_nil, ← rv.length]
        exact F.len _ _ _ _ h
      refine codeAny_mono (F.run _ X.stack _ H' ⟨[.ref x, cls, .ref a, tb], []⟩ [.ref x, cls, .ref a, tb] _ _ E (a, oe) ⟨hr.dp, hr.un⟩ ⟨he3, na, (by rw [hs]; exact fa), fun v z => by rw [hd] at z; cases z⟩ S3.env0 ?_ rv h) fun r s6 hq => after r s6 tbv hq
      have q := hb { s' with heap := h3 } [.ref x, cls, .ref a, tb] S3.kIn hl
      rw [List.append_nil] at q
      exact q
    refine wpAny_typeOf_ref he3 ?_
    rw [hz.1]
    unfold tracebackOf
    refine wpAny_bind (wpAny_field he3 hd hv1 ?_)
    have lt : 1 < ts.size := by
      have := (Array.getElem?_eq_some_iff.mp ht3).1
      omega
    refine wpAny_bind (wpAny_field hT hdT (Array.getElem?_eq_getElem lt) ?_)
    split
    · exact wpAny_pure (go .none .non rfl)
    · exact wpAny_pure (go (.ref T) (.ref T) rfl)
  rcases sky' with ⟨hB, hn, hl, oe, vs, he0, hz, hd, hv1⟩ | fl | hh
  · exact HandSPX.look_newZ Zc.steady hfr hl hf he0 hB hn hd hv1 hz fin
  · exact HandSPX.looks_onZ Zc.steady hfr hf fl fin
  · exact HandSPX.againZ hf hh.2.2.2 (fin s'.heap hh (Heap.UpToSlots.refl _))
end
def dWith (sp : Sp) (x : Addr) (E : XK) (D : Ends) : Ends where
  nx := fun σ H => sp [.ref x, .non, .non, .non] H (fun v H2 => v = .non ∧ D.nx σ H2) E
  bk := fun σ H => sp [.ref x, .non, .non, .non] H (fun v H2 => v = .non ∧ D.bk σ H2) E
  ct := fun σ H => sp [.ref x, .non, .non, .non] H (fun v H2 => v = .non ∧ D.ct σ H2) E
  rt := fun u H => sp [.ref x, .non, .non, .non] H (fun v H2 => v = .non ∧ D.rt u H2) E
def tWith (C : Addr) (te : TE) (spE spX : Sp) (EE EX : XK) (i : Nat) (tb : WX → TS) (Wout : WX) : TS := fun D σ H => te σ H fun v H1 => ∃ (x dx : Addr) (fs : List (Str × V)), v = .ref x ∧ H1 x = some (.ins C dx fs) ∧
  spE [.ref x] H1 (fun v2 H2 => tb (wWith spX x EX Wout) (dWith spX x EX D) (σ.set i (some v2)) H2) EE
section
variable {X : Cx} {CE CX' : CXT} {k : Nat} {C fe fx : Addr} {fdE fdX : FuncData} {psE psX : List Str} {spE spX : Sp} {EE EX : XK} {Wout : WX} {ctx : Expr} {body : List Stmt} {pos py : Pos} {y : Str} {i : Nat} {te : TE} {tb : WX → TS}
theorem ps_with (hs : X.stack = X.env :: X.outer) (hf : X.env.frame = some X.env.locals) (hex : X.ex = []) (tk : Takes X Wout) (hN : X.N.Nodup) (hi : X.N[i]? = some y) (hy : Loc X.env.scope y)
    (he : PE X ctx te) (hE : Meth X.K C "__enter__" fe) (hX : Meth X.K C "__exit__" fx) (FE : FnOk X.prog X.w X.K X.mg X.base CE k fe fdE psE spE) (FX : FnOk X.prog X.w X.K X.mg X.base CX' k fx fdX psX spX) (FXM : FnM X.prog X.w X.K X.mg X.base CX' k fx fdX psX spX)
    (hr : Room k X.A) (hbE : Binds X.K fdE psE []) (hbX : Binds X.K fdX psX []) (hxE : Passes CE X EE) (hxX : Passes CX' X EX) (hxS : ∀ (a : Addr) (pn : List (Addr × Obj)), Passes CX' (X.suite a pn) EX)
    (hb : ∀ (W : WX) (pn : List (Addr × Obj)) (xe : Value → Shared → Prop), Takes (X.tr pn xe) W → PassesOwn (model X.prog X.w) X.A X.env xe → PSs (X.tr pn xe) body (tb W))
    (hfn : X.fn y = true ∨ X.env.scope.names.lookup y = some .local := by first | exact .inl rfl | exact .inr rfl | assumption) :
    PS X (.With [⟨ctx, some (.Name y py)⟩] body pos) (tWith C te spE spX EE EX i tb Wout) := by
  refine ⟨fun pins s σ H D I h => ?_⟩
  have ok := I.ok
  refine kw_execN (thn (he.run pins s σ H _ I h) fun u s1 ⟨v, H1, I1, rv, x, dx, fs, ex, ea, q⟩ => ?_)
  subst ex
  obtain rfl : u = Value.ref x := rv
  obtain ⟨mA, O, _, _, _, _⟩ := ins_get I1.hok ea
  obtain ⟨od, J, _⟩ := O.look
  unfold KwIn
  refine with_raw (b := assign (.Name y py) X.env) I1.kIn J hE.at_ hE.fn hX.at_ hX.fn ?_
  refine thn (run_fn (us := [.ref x]) (vs := [.ref x]) FE hr hbE .nil hxE I1 (.cons rfl .nil) q) fun u2 s2 ⟨v2, H2, I2, r2, q2⟩ => ?_
  refine wpAny_bind (wpAny_assign_Name (store_ok I2 hN hi hy r2 (fun s3 I3 => ?_) hfn))
  refine wpAny_mono ((hb (wWith spX x EX Wout) (X.pn ++ pins) (fun e s' => WithRaised X.prog X.w X.A X.xe X.env x fx (SP X pins D) e s') (fun e s' xx => with_exc hs hf hex ok tk FXM hr hbX hxS xx) ?_).run [] s3 _ H2 (dWith spX x EX D) (I3.toTry _) q2) (fun f s4 z => ?_) fun e s4 z => z
  · exact PassesOwn.looking
  · have run : ∀ (σ4 : St) (H4 : Hp) (P : Hp → Prop), Inv X pins σ4 H4 s4 → spX [.ref x, .non, .non, .non] H4 (fun v H2 => v = .non ∧ P H2) EX → wpAny (model X.prog X.w) X.A (call (.ref fx) [.ref x, .none, .none, .none]) (fun _ s5 => ∃ H5, Inv X pins σ4 H5 s5 ∧ P H5) X.xe s4 := fun σ4 H4 P I4 h4 =>
      thn (run_fn (us := [.ref x, .none, .none, .none]) (vs := [.ref x, .non, .non, .non]) FX hr hbX .nil hxX I4 (.cons rfl (.cons rfl (.cons rfl (.cons rfl .nil)))) h4) fun _ s5 ⟨_, H5, I5, _, _, p⟩ => ⟨H5, I5, p⟩
    cases f with
    | next =>
      obtain ⟨σ4, H4, I4, q4⟩ := z
      exact thn (run σ4 H4 _ (I4.ofTry ok) q4) fun _ s5 ⟨H5, I5, p⟩ => ⟨σ4, H5, I5, p⟩
    | brk =>
      obtain ⟨σ4, H4, I4, q4⟩ := z
      exact thn (run σ4 H4 _ (I4.ofTry ok) q4) fun _ s5 ⟨H5, I5, p⟩ => ⟨σ4, H5, I5, p⟩
    | cont =>
      obtain ⟨σ4, H4, I4, q4⟩ := z
      exact thn (run σ4 H4 _ (I4.ofTry ok) q4) fun _ s5 ⟨H5, I5, p⟩ => ⟨σ4, H5, I5, p⟩
    | ret u4 =>
      obtain ⟨v4, σ4, H4, I4, r4, q4⟩ := z
      exact thn (run σ4 H4 _ (I4.ofTry ok) q4) fun _ s5 ⟨H5, I5, p⟩ => ⟨v4, σ4, H5, I5, r4, p⟩
end
def SpW (K : PySem.W.Frag) (n : Nat) (F : FM) : Sp := fun vs H Q E => ∃ al be m d v rest, vs = v :: rest ∧ rest.length = n ∧ SS K al be H m ∧ RD K al be H d v ∧
  Post K al be H E (F [d] m) fun d al' H' _ => ∀ v, RD K al' be H' d v → Q v H'
theorem SL.startW {K : PySem.W.Frag} {al be : List Addr} {H : Hp} {N : List Str} {d : D} {v : V} {rest : List V} (r : RD K al be H d v) (hn : rest.length + 1 ≤ N.length) : SL K al be H (L2.start N (v :: rest)) (startE N.length [d]) := by
  refine ⟨by simp [L2.start, startE]; omega, fun i e h => ?_⟩
  unfold startE at h
  cases i with
  | zero =>
    simp at h
    subst h
    exact ⟨v, by simp [L2.start], r⟩
  | succ j =>
    rw [List.getElem?_append_right (by simp), List.getElem?_replicate] at h
    split at h <;> cases h
theorem body_okW {K : PySem.W.Frag} {N : List Str} {F : FM} {g : GS} {n : Nat} {ext : Nat → D → Sto → Out D} (hx : ExtOk ext) (hn : n + 1 ≤ N.length) (hF : ∀ ds m, F ds m = runF ext N.length g ds m) {vs : List V} {H : Hp} {Q : VK} {E : XK} (h : SpW K n F vs H Q E) :
    tS K E g { nx := fun _ H' => Q .non H', rt := Q } (L2.start N vs) H := by
  obtain ⟨al, be, m, d, v, rest, rfl, hl, s, r, h⟩ := h
  refine ⟨al, be, m, _, s, SL.startW r (by omega), ?_⟩
  rw [hF] at h
  unfold runF at h
  cases e : g (startE N.length [d]) m with
  | nx en m' =>
    rw [e] at h
    exact fun al' H' σ' c s' l' => hx K al be H m E .non m' Q s h al' H' .non c s' (rd_non.mpr rfl)
  | rt d m' =>
    rw [e] at h
    exact fun al' H' v c s' r' => hx K al be H m E d m' Q s h al' H' v c s' r'
  | ex x m' => rw [e] at h; exact h
  | bk en m' => rw [e] at h; exact h.elim
  | ct en m' => rw [e] at h; exact h.elim
  | bad => rw [e] at h; exact h.elim
theorem fnOk_ofW {CX : CXT} {P : Program} {w : World} {K : PySem.W.Frag} {mg : Str → Option Value} {base : Heap} {k : Nat} {f : Addr} {fd : FuncData} {x qual : Str} {params : Arguments} {body : List Stmt} {scope : Scope} {dvs : List V} {kws : List (Str × V)} {N ps : List Str} {g : GS} {ext : Nat → D → Sto → Out D} {n : Nat}
    (T : FunD K x qual params body scope dvs kws f fd) (S : FnScope N ps scope) (hx : ExtOk ext) (hn : n + 1 = ps.length) (hN : n + 1 ≤ N.length) (walk : Walks2 CX P w K mg base k N qual scope f body g) : FnOk P w K mg base CX (k + 1) f fd ps (SpW K n (runF ext N.length g)) :=
  T.ok S (fun vs H Q E ⟨al, be, m, d, v, rest, e, hl, _⟩ => by rw [e, List.length_cons, hl, hn]) fun cdv A outer s H vs Q E hr h => ⟨_, walk cdv A outer s H E hr, body_okW hx hN (fun _ _ => rfl) h⟩
def WalksM (CX : CXT) (P : Program) (w : World) (K : PySem.W.Frag) (mg : Str → Option Value) (base : Heap) (k : Nat) (N : List Str) (qual : Str) (scope : Scope) (f : Addr) (body : List Stmt) (g : GS) : Prop :=
  ∀ (cdv : Value) (A : Around) (outer : List Env) (s : Shared) (H : Hp) (E : XK) (p : Addr × Obj), L2H.RoomH k (A.deeper (PyProof.Rows.envOfC qual scope s.heap.objs.size f cdv)) → DSs (L2H.cxH CX P w K mg base N qual scope f cdv A outer s H E p) E body g
theorem fnM_ofW {CX : CXT} {P : Program} {w : World} {K : PySem.W.Frag} {mg : Str → Option Value} {base : Heap} {k : Nat} {f : Addr} {fd : FuncData} {x qual : Str} {params : Arguments} {body : List Stmt} {scope : Scope} {dvs : List V} {kws : List (Str × V)} {N ps : List Str} {g : GS} {ext : Nat → D → Sto → Out D} {n : Nat}
    (T : FunD K x qual params body scope dvs kws f fd) (S : FnScope N ps scope) (hx : ExtOk ext) (hn : n + 1 = ps.length) (hN : n + 1 ≤ N.length) (walk : WalksM CX P w K mg base k N qual scope f body g) : FnM P w K mg base CX (k + 1) f fd ps (SpW K n (runF ext N.length g)) := by
  obtain ⟨oc, od, dV, kV, doc, pm, an, cdv, ct, osl, rfl, lk, hcd, _, _⟩ := T.ex
  exact fn_ofM lk hcd S (fun vs H Q E ⟨al, be, m, d, v, rest, e, hl, _⟩ => by rw [e, List.length_cons, hl, hn]) fun A outer s H vs Q E p hr h => ⟨_, walk cdv A outer s H E p hr, body_okW hx hN (fun _ _ => rfl) h⟩
structure CalW (P : Program) (w : World) (K : PySem.W.Frag) (mg : Str → Option Value) (base : Heap) (CX : CXT) (k : Nat) (c x : Str) (F : FM) : Prop where
  ex : ∃ (f : Addr) (fd : FuncData) (ps : List Str), FnOk P w K mg base CX k f fd ps (SpW K 3 F) ∧ FnM P w K mg base CX k f fd ps (SpW K 3 F) ∧ Meth K (He.ga K c) x f ∧ Cls K (He.ga K c) ∧ Binds K fd ps []
theorem rx_chg {K : PySem.W.Frag} {al al' be : List Addr} {H H' : Hp} {c : Value} {dx : Option Addr} {x : Exn} (ch : Chg al H al' H') (r : RX K al be H c dx x) : RX K al' be H' c dx x := by
  by_cases hk : x.c = "KeyError"
  · rw [r.key hk]
    exact RX.mkKey hk
  refine RX.mk hk ?_
  obtain ⟨e, q⟩ := r.own hk
  refine ⟨e, ?_⟩
  cases dx with
  | none => exact q
  | some d =>
    obtain ⟨fs, f1, f2, f3⟩ := q
    exact ⟨fs, ch.fz f1, f2, ch.rds f3⟩
theorem rx_rel {K : PySem.W.Frag} {al be : List Addr} {H : Hp} {c : Value} {dx : Option Addr} {x : Exn} (r : RX K al be H c dx x) : ∃ kv : V, RelV kv c := by
  by_cases hk : x.c = "KeyError"
  · rw [r.key hk]
    exact ⟨.ty "KeyError", rfl⟩
  · exact ⟨.ref (He.ga K x.c), (r.own hk).1.symm ▸ rfl⟩
theorem exit_sp {K : PySem.W.Frag} {al be : List Addr} {H : Hp} {m : Sto} {o : D} {x : Addr} {a b c : V} {FX : FM} {m' : Sto} {P : Hp → Prop} (s : SS K al be H m) (ro : RD K al be H o (.ref x)) (e : FX [o] m = .ok .non m')
    (h : ∀ al' H', Chg al H al' H' → SS K al' be H' m' → P H') : SpW K 3 FX [.ref x, a, b, c] H (fun v H2 => v = .non ∧ P H2) E0 :=
  ⟨al, be, m, o, .ref x, [a, b, c], rfl, rfl, s, ro, by
    rw [e]
    exact fun al' H' ch s' v rv => ⟨rd_non.mp rv, h al' H' ch s'⟩⟩
section
variable {X : Cx} {CE CX' : CXT} {E : XK} {k : Nat} {c : Str} {FE FX : FM} {ctx : Expr} {body : List Stmt} {pos py : Pos} {y : Str} {i : Nat} {gc : GE} {gb : GS}
end
end L3
namespace LamX
open PySem PySem.Spec PyProof.Rows L2
structure LamS1 (z : Str) (sc scope : Scope) : Prop where
  kind : scope.kind = .function
  co : scope.isCoroutine = false
  gen : scope.isGenerator = false
  own : ∀ y ∈ scope.names, y.2 ≠ .cell ∧ (y.2 = .local → y.1 = z)
  par : scope.names.lookup z = some .local
  free : ∀ y ∈ scope.names, y.2 = .free → sc.names.lookup y.1 = some .cell ∨ sc.names.lookup y.1 = some .free
def lamS1B (z : Str) (sc scope : Scope) : Bool :=
  decide (scope.kind = .function) && !scope.isCoroutine && !scope.isGenerator && (scope.names.all fun y => !decide (y.2 = .cell) && (!decide (y.2 = .local) || decide (y.1 = z)) && (!decide (y.2 = .free) || decide (sc.names.lookup y.1 = some .cell) || decide (sc.names.lookup y.1 = some .free))) &&
    decide (scope.names.lookup z = some .local)
theorem lamS1_by {z : Str} {sc scope : Scope} (h : lamS1B z sc scope = true) : LamS1 z sc scope := by
  unfold lamS1B at h
  simp only [Bool.and_eq_true, Bool.or_eq_true, Bool.not_eq_true', decide_eq_true_eq, decide_eq_false_iff_not, List.all_eq_true] at h
  obtain ⟨⟨⟨⟨h1, h2⟩, h3⟩, h4⟩, h5⟩ := h
  refine ⟨h1, h2, h3, fun y hy => ⟨(h4 y hy).1.1, fun e => (h4 y hy).1.2.elim (fun n => absurd e n) id⟩, h5, fun y hy e => ?_⟩
  rcases (h4 y hy).2 with (q | q) | q
  · exact absurd e q
  · exact .inl q
  · exact .inr q
theorem LamS1.has {X : Cx} {z : Str} {scope : Scope} (L : LamS1 z X.env.scope scope) (ok : X.Ok) : ∀ y ∈ scope.names, y.2 = .free → ∃ c, X.env.cells.lookup y.1 = some c := fun y hy e => ok.has _ (L.free y hy e)
def lamCx1 (X : Cx) (A : Around) (outer : List Env) (s : Shared) (H : Hp) (E : XK) (scope : Scope) (f c' : Addr) (z : Str) : Cx := { lamCx X A outer s H E scope f c' with N := X.N ++ [z] }
section
variable {X : Cx} {pins : List (Addr × Obj)} {σ : L2.St} {H HZ : Hp} {s s1 : Shared}
theorem lam_start1 {A : Around} {outer : List Env} {E : XK} {scope : Scope} {f c' : Addr} {h₁ : Heap} {tk : Nat} {z : Str} {v : V} {u : Value} (I : Inv X pins σ H s) (L : LamS1 z X.env.scope scope) (hz : z ∉ X.N) (e0 : Env0 X.prog X.w X.K X.mg X.base A outer s1 HZ) (hd : A.handled = none)
    (un : Un (frs X.stack) [] H HZ s.heap s1.heap) (rv : RelV v u) (hns : h₁.Ns s1.heap.objs.size fun y => ([(z, u)] : List (Str × Value)).reverse.lookup y) (kp : ∀ b o, s1.heap.get? b = some o → h₁.get? b = some o) :
    Inv (lamCx1 X A outer s1 HZ E scope f c' z) [] (σ ++ [some v]) HZ { s1 with heap := h₁, toks := tk } := by
  have hfree := L.has I.ok
  have cm : ∀ {y c}, (cloFrom X.env.cells scope.names []).lookup y = some c → X.env.cells.lookup y = some c := fun {y c} e => by
    rcases cloFrom_mem (PySem.mem_of_lookup e) with hm | ⟨h1, h2⟩
    · cases hm
    · obtain ⟨c1, hc⟩ := hfree _ h1 rfl
      have hc : X.env.cells.lookup y = some c1 := hc
      have e2 : c = c1 := by
        rw [h2, hc] <;> rfl
      rw [e2]
      exact hc
  have look : ∀ {y}, scope.names.lookup y = some .free → ∃ c, (cloFrom X.env.cells scope.names []).lookup y = some c := fun {y} hl =>
    mem_lookup (cloFrom_has (cells := X.env.cells) (acc := []) (PySem.mem_of_lookup hl))
  have cellK : ∀ {c : Addr} {v : Option Value}, H c = none → s.heap.IsCell c v → h₁.IsCell c v := fun {c v} n ⟨o, ho, hd⟩ => by
    obtain ⟨sl, q⟩ := un.any ho n (by simp)
    exact ⟨_, kp _ _ q, hd⟩
  have noA : ∀ b : Addr, b ∉ (lamCx1 X A outer s1 HZ E scope f c' z).ex := fun b q => absurd (show b ∈ ([] : List Addr) from q) (by simp)
  refine ⟨⟨e0.mod, L.kind, rfl, rfl, Nat.le_refl _, fun y q c e1 e2 => I.ok.inj y q c (cm e1) (cm e2), fun y hy => ?_, fun y c q _ => ?_, fun _ => hd, Around.frames_deeper e0.frames, .inr ⟨rfl, rfl⟩, fun b q => absurd q (noA b), e0.bs, e0.bsz, fun b _ _ => noA b,
      fun b q => absurd q (noA b), e0.funs, e0.frf⟩,
    rfl, e0.bare, Un.kept kp, ⟨_, hns, fun i y v' e1 e2 e3 => ?_⟩, fun y c e => ?_, e0.hok.fresh (Nat.le_refl _), fun y c e => ?_, fun q hq => absurd (show q ∈ ([] : List (Addr × Obj)) ++ [] from hq) (by simp), e0.hok.kept kp, by simp [lamCx1, I.len]⟩
  · have hy : scope.names.lookup y = some .cell ∨ scope.names.lookup y = some .free := hy
    rcases hy with hy | hy
    · exact absurd rfl (L.own _ (PySem.mem_of_lookup hy)).1
    · exact look hy
  · have q : false = true := q
    cases q
  · have e3 : Vis scope y := e3
    have e1 : (X.N ++ [z])[i]? = some y := e1
    by_cases hi : i < X.N.length
    · rw [List.getElem?_append_left hi] at e1
      rw [List.getElem?_append_left (by rw [I.len]; exact hi)] at e2
      rcases e3 with k | k | k
      · have ez := (L.own _ (PySem.mem_of_lookup k)).2 rfl
        exact absurd (ez ▸ List.mem_of_getElem? e1) hz
      · exact absurd rfl (L.own _ (PySem.mem_of_lookup k)).1
      · obtain ⟨m, hn, hl⟩ := I.loc
        have hvis : Vis X.env.scope y := (L.free _ (PySem.mem_of_lookup k) rfl).elim (fun k => .inr (.inl k)) (fun k => .inr (.inr k))
        obtain ⟨w', r, q⟩ := hl i y v' e1 e2 hvis
        obtain ⟨c2, h2⟩ := look k
        refine ⟨w', r, .inr ⟨.inr k, c2, h2, ?_⟩⟩
        have c1 := cm h2
        rcases q with ⟨k', _⟩ | ⟨_, c3, e', q⟩
        · have k' : X.env.scope.names.lookup y = some .local := k'
          rcases L.free _ (PySem.mem_of_lookup k) rfl with k2 | k2 <;> rw [show X.env.scope.names.lookup y = _ from k2] at k' <;> cases k'
        · rw [c1] at e'
          cases e'
          exact cellK (I.freeC y _ c1) q
    · have hlen := I.len
      rw [List.getElem?_append_right (by omega)] at e1
      rw [List.getElem?_append_right (by omega)] at e2
      have h0 : i - X.N.length = 0 := by
        have := (List.getElem?_eq_some_iff.mp e1).1
        simpa using this
      rw [h0] at e1
      rw [hlen, h0] at e2
      simp at e1 e2
      subst e1
      subst e2
      exact ⟨u, rv, .inl ⟨L.par, by simp [List.lookup]⟩⟩
  · obtain ⟨w', q⟩ := I.cell y c (cm e)
    exact ⟨w', cellK (I.freeC y c (cm e)) q⟩
  · obtain ⟨v, o, ho, hd⟩ := I.cell y c (cm e)
    exact un.free c o ho (I.freeC y c (cm e)) (by simp)
def tAct1 (i : Nat) (f c' : Addr) (q : Str) (σ : L2.St) (ta : TA) (tb : TE) : TE := fun σZ HZ Q => σZ[i]? = some (some (.ref f)) ∧ ta σZ HZ fun vs H1 => ∃ v, vs = [v] ∧ H1 c' = some (CodeO c' q) ∧ tb (σ ++ [some v]) H1 Q
theorem pe_act1 {CXg : CXT} {Eg : XK} {Ng : List Str} {qg : Str} {sg : Scope} {g f c' : Addr} {cdg pm ctv : Value} {params : Arguments} {body e : Expr} {scope : Scope} {k i : Nat} {a z : Str} {pn : List (Addr × Obj)} {xe : Value → Shared → Prop} {W : WX} {E : XK} {ta : TA} {tb : TE} {p1 p2 : Pos}
    (I : Inv X pins σ H s) (L : LamS1 z X.env.scope scope) (hz : z ∉ X.N) (hf : s.heap.get? f = some (PySem.W.kla_obj "<lambda>" (X.env.qual ++ "<lambda>") params body scope (cloFrom X.env.cells scope.names []) pm c' ctv)) (hfn : H f = none) (hfr : f ∉ frs X.stack)
    (hbind : ∀ u : Value, bindArgs (PySem.W.kla_fn "<lambda>" (X.env.qual ++ "<lambda>") params body scope (cloFrom X.env.cells scope.names []) pm (.ref c') ctv) ⟨[u], []⟩ = pure [(z, u)])
    (tk : Takes ((cxOf CXg X.prog X.w X.K X.mg X.base Ng qg sg g cdg X.A X.stack s H Eg).tr pn xe) W) (hW : ∀ cls d σ' H', E cls d H' → W cls d σ' H') (hr : Room (k + 1) (X.A.deeper (envOfC qg sg s.heap.objs.size g cdg)))
    (ha : PA ((cxOf CXg X.prog X.w X.K X.mg X.base Ng qg sg g cdg X.A X.stack s H Eg).tr pn xe) [e] ta)
    (hbody : ∀ (A : Around) (outer : List Env) (s : Shared) (H : Hp), Room k (A.deeper (lamEnv X scope s.heap.objs.size f c')) → PE (lamCx1 X A outer s H E scope f c' z) body tb)
    (hN : Ng[i]? = some a) (hv : Vis sg a) (hst : starEach [e] (envOfC qg sg s.heap.objs.size g cdg) = (false, eval e (envOfC qg sg s.heap.objs.size g cdg)) :: starEach [] (envOfC qg sg s.heap.objs.size g cdg) := by rfl) (hd : (a == ("__debug__" : Str)) = false := by decide) (hcd : (a == ("__classdict__" : Str)) = false := by decide) :
    PE ((cxOf CXg X.prog X.w X.K X.mg X.base Ng qg sg g cdg X.A X.stack s H Eg).tr pn xe) (.Call (.Name a p1) [e] [] p2) (tAct1 i f c' (X.env.qual ++ "<lambda>") σ ta tb) := by
  refine ⟨fun pinsZ sZ σZ HZ Q IZ h => ?_⟩
  obtain ⟨hs, ht⟩ := h
  refine wpAny_Call_Name_kw (thn ((pe_var (pos := p1) (i := i) hN hv hd hcd).run pinsZ sZ σZ HZ (fun v H1 => v = .ref f ∧ H1 = HZ) IZ ⟨.ref f, hs, rfl, rfl⟩) fun u s1 ⟨v, H1, I1, r1, q1⟩ => ?_)
  obtain ⟨ev, eH⟩ := q1
  subst ev
  rw [eH] at I1
  obtain rfl : u = Value.ref f := r1
  have at1 : ∀ {s2 : Shared} {H2 : Hp}, Inv ((cxOf CXg X.prog X.w X.K X.mg X.base Ng qg sg g cdg X.A X.stack s H Eg).tr pn xe) pinsZ σZ H2 s2 → s2.heap.get? f = some (PySem.W.kla_obj "<lambda>" (X.env.qual ++ "<lambda>") params body scope (cloFrom X.env.cells scope.names []) pm c' ctv) := fun I2 =>
    I2.base.keep f _ hf hfn hfr (fun z => nomatch (show f ∈ ([] : List Addr) from z))
  refine PySem.W.callWith_F ⟨_, _, _, _, at1 I1⟩ (thn (ha.run p2 pinsZ s1 σZ HZ _ I1 ht) fun us s2 ⟨vs, H2, I2, rvs, v, ev, hc, hb⟩ => ⟨⟨_, _, _, _, at1 I2⟩, ?_⟩) hst rfl
  subst ev
  obtain ⟨u, rfl, rv⟩ : ∃ u, us = [u] ∧ RelV v u := by
    cases rvs with
    | cons r t => cases t; exact ⟨_, rfl, r⟩
  have of1 := at1 I2
  have un : Un (frs X.stack) [] H H2 s.heap s2.heap := I2.base
  obtain ⟨⟨oc, vs, t, hoc, hdc, hvc⟩, _, _⟩ := I2.hok c' _ hc
  have rc : codeAny (model X.prog X.w) (X.A.deeper (envOfC qg sg s.heap.objs.size g cdg)) (.call (.ref f) ⟨[u], []⟩) (CR (L2.CX X.prog X.w) (envOfC qg sg s.heap.objs.size g cdg :: X.stack) X.prog X.w H2 s2 Q E) s2 := by
    refine PySem.W.kla_callFunE hr.depth of1 rfl L.co L.gen rfl ⟨c', oc, vs, t, rfl, hoc, hdc, hvc⟩ ?_
    rw [hbind]
    refine wpAny_pure (wpAny_newFunctionEnv (fun y hy => (L.own y hy).1) (fun y hy => by
      obtain rfl : y = (z, u) := by simpa using hy
      exact L.par) (fun h₁ hns hsb => ⟨I2.nolimit.fresh _ hsb, ?_⟩) L.kind)
    show codeAny _ _ (.expr body (lamEnv X scope s2.heap.objs.size f c')) _ _
    have kp : ∀ b o, s2.heap.get? b = some o → h₁.get? b = some o := fun b o e => hsb.extBut b o (Nat.ne_of_lt (Heap.lt_size e)) (Heap.get?_push_of_some _ e)
    have J : Inv (lamCx1 X (X.A.deeper (envOfC qg sg s.heap.objs.size g cdg)) (envOfC qg sg s.heap.objs.size g cdg :: X.stack) s2 H2 E scope f c' z) [] (σ ++ [some v]) H2 { s2 with heap := h₁, toks := s2.toks + ([(z, u)] : List (Str × Value)).length } :=
      lam_start1 I L hz I2.env0 hr.hd un rv hns kp
    refine PySem.W.kla_codeExpr (wpAny_mono ((hbody _ _ s2 H2 (hr.deeper _)).run [] _ _ H2 Q J hb) (fun v s' hq => ?_) fun e s' hq => hq)
    obtain ⟨w', H', J', rv, q⟩ := hq
    exact ⟨w', H', J'.os, J'.bare, J'.base, J'.hok, rv, q⟩
  have hx : Passes (L2.CX X.prog X.w) ((cxOf CXg X.prog X.w X.K X.mg X.base Ng qg sg g cdg X.A X.stack s H Eg).tr pn xe) E := passes_call tk hW
  refine wpAny_call (codeAny_mono rc fun r s' hq => ?_)
  cases r with
  | error e => exact hx pinsZ σZ H2 s2 e s' I2 hq
  | ok fl =>
    cases fl with
    | ret u => exact I2.after hq
    | next => exact False.elim hq
    | brk => exact False.elim hq
    | cont => exact False.elim hq
end
def GivesTo1 (X : Cx) (kr : Nat) (Ng : List Str) (x : Str) (sg : Scope) (g : Addr) (cdg : Value) (bg : List Stmt) (a : Str) (q : Str) (E : XK) (TT : (XK → V → Hp → VK → Prop) → V → Hp → VK → Prop) : Prop :=
  ∀ (f c' : Addr) (s : Shared) (H : Hp) (v0 : V) (Q : VK) (tl : XK → V → Hp → VK → Prop),
    (∀ (W : WX) (pn : List (Addr × Obj)) (xe : Value → Shared → Prop) (E' : XK) (e : Expr) (ta : TA) (p1 p2 : Pos), Takes ((cxOf (L2.CX X.prog X.w) X.prog X.w X.K X.mg X.base Ng x sg g cdg X.A X.stack s H E).tr pn xe) W → (∀ cls d σ' H', E' cls d H' → W cls d σ' H') →
      PA ((cxOf (L2.CX X.prog X.w) X.prog X.w X.K X.mg X.base Ng x sg g cdg X.A X.stack s H E).tr pn xe) [e] ta →
      starEach [e] (envOfC x sg s.heap.objs.size g cdg) = (false, eval e (envOfC x sg s.heap.objs.size g cdg)) :: starEach [] (envOfC x sg s.heap.objs.size g cdg) →
      PE ((cxOf (L2.CX X.prog X.w) X.prog X.w X.K X.mg X.base Ng x sg g cdg X.A X.stack s H E).tr pn xe) (.Call (.Name a p1) [e] [] p2) (fun σZ HZ Q => σZ[1]? = some (some (.ref f)) ∧ ta σZ HZ fun vs H1 => ∃ v, vs = [v] ∧ H1 c' = some (CodeO c' q) ∧ tl E' v H1 Q)) →
    Room kr (X.A.deeper (envOfC x sg s.heap.objs.size g cdg)) → H c' = some (CodeO c' q) → TT tl v0 H Q →
    ∃ t, PSs (cxOf (L2.CX X.prog X.w) X.prog X.w X.K X.mg X.base Ng x sg g cdg X.A X.stack s H E) bg t ∧ t { nx := fun _ H' => Q .non H', rt := Q } (L2.start Ng [v0, .ref f]) H
def tLam1 (P : Addr) (q : Str) (TT : (XK → V → Hp → VK → Prop) → V → Hp → VK → Prop) (te : TE) (t : XK → TE) : TE := fun σ H Q => te σ H fun v0 H0 => ∃ ps, TabPs H0 P q ps ∧ ∀ H1, LamCh H0 P q ps H1 → TT (fun E v H' Q' => t E (σ ++ [some v]) H' Q') v0 H1 Q
def tLam1K (P : Addr) (q : Str) (TT : (XK → V → Hp → VK → Prop) → V → Hp → VK → Prop) (i : Nat) (t : XK → TE) : TE := fun σ H Q => ∃ ps v0, σ[i]? = some (some v0) ∧ TabPs H P q ps ∧ ∀ H1, LamCh H P q ps H1 → TT (fun E v H' Q' => t E (σ ++ [some v]) H' Q') v0 H1 Q
section
variable {X : Cx}
theorem lam1_call {TT : (XK → V → Hp → VK → Prop) → V → Hp → VK → Prop} {x a p0 z : Str} {g f c' : Addr} {k : Nat} {pg : Arguments} {bg : List Stmt} {sg : Scope} {dV kV doc pm cdv ct oc pm' ctv : Value} {an od : Option Addr} {osl : Array (Option Value)} {Ng : List Str}
    {params : Arguments} {body : Expr} {scope : Scope} {t : XK → TE} {E : XK} {pins : List (Addr × Obj)} {σ : L2.St} {H1 : Hp} {s' : Shared} {v0 : V} {u0 : Value} {us : List Value} {kv : List (Str × Value)} {Q : VK} (I1 : Inv X pins σ H1 s') (hNg : Ng[1]? = some a) (hva : Vis sg a)
    (lk : X.K.lookup g = some ⟨oc, od, .func (PySem.W.fnOf x x pg bg sg dV kV doc pm an cdv ct), osl⟩) (hcg : PySem.W.codeIn X.K cdv x = true) (Sg : FnScope Ng [p0, a] sg) (hG : GivesTo1 X (k + 1) Ng x sg g cdv bg a (X.env.qual ++ "<lambda>") E TT) (hr : Room (k + 2) X.A) (L : LamS1 z X.env.scope scope) (hz : z ∉ X.N)
    (hbind : ∀ (q : Str) (cl : List (Str × Addr)) (pm cv ctv u : Value), bindArgs (PySem.W.kla_fn "<lambda>" q params body scope cl pm cv ctv) ⟨[u], []⟩ = pure [(z, u)])
    (hbody : ∀ (A : Around) (outer : List Env) (s : Shared) (H : Hp) (E : XK) (f c' : Addr), Room k (A.deeper (lamEnv X scope s.heap.objs.size f c')) → PE (lamCx1 X A outer s H E scope f c' z) body (t E))
    (hx : PassesAt (L2.CX X.prog X.w) X σ E) (hf : s'.heap.get? f = some (PySem.W.kla_obj "<lambda>" (X.env.qual ++ "<lambda>") params body scope (cloFrom X.env.cells scope.names []) pm' c' ctv)) (hfn : H1 f = none) (hfr : f ∉ frs X.stack) (hco : H1 c' = some (CodeO c' (X.env.qual ++ "<lambda>")))
    (r0 : RelV v0 u0) (hbt : BindsTo s' (PySem.W.fnOf x x pg bg sg dV kV doc pm an cdv ct) ⟨us, kv⟩ ([p0, a].zip [u0, .ref f])) (h : TT (fun E v H' Q' => t E (σ ++ [some v]) H' Q') v0 H1 Q)
    (hd : (a == ("__debug__" : Str)) = false := by decide) (hcd : (a == ("__classdict__" : Str)) = false := by decide) :
    wpAny (model X.prog X.w) X.A (call (.ref g) us kv) (EP X pins σ Q) X.xe s' := by
  have rc : codeAny (model X.prog X.w) X.A (.call (.ref g) ⟨us, kv⟩) (CR (L2.CX X.prog X.w) X.stack X.prog X.w H1 s' Q E) s' := by
    refine run_ofS (N := Ng) (ps := [p0, a]) (us := [u0, .ref f]) (vs := [v0, .ref f]) lk hcg Sg hr I1.env0 hbt (.cons r0 (.cons rfl .nil)) rfl fun hr' => ?_
    exact hG f c' s' H1 v0 Q (fun E v H' Q' => t E (σ ++ [some v]) H' Q') (fun W pn xe E' e ta p1 p2 tk hW ha hst' => pe_act1 (i := 1) I1 L hz hf hfn hfr (fun u => hbind _ _ _ _ _ u) tk hW hr' ha (fun A outer s H hr2 => hbody A outer s H E' f c' hr2) hNg hva hst' hd hcd) hr' hco h
  refine wpAny_call (codeAny_mono rc fun r s2 hq => ?_)
  cases r with
  | error e => exact hx pins H1 s' e s2 I1 hq
  | ok fl =>
    cases fl with
    | ret u => exact I1.after hq
    | next => exact False.elim hq
    | brk => exact False.elim hq
    | cont => exact False.elim hq
theorem pe_lam1 {TT : XK → (XK → V → Hp → VK → Prop) → V → Hp → VK → Prop} {x a p0 z : Str} {g c P : Addr} {k : Nat} {pg : Arguments} {bg : List Stmt} {sg : Scope} {dV kV doc pm cdv ct oc : Value} {an od : Option Addr} {osl : Array (Option Value)} {Ng : List Str}
    {params : Arguments} {body e0 : Expr} {scope : Scope} {te : TE} {t : XK → TE} {E : L2.St → XK} {p lpos pos : Pos} (hg : Gl X x) (hm : X.mg x = some (.ref g)) (hk : PySem.W.keepIn X.K (.ref g) = true)
    (lk : X.K.lookup g = some ⟨oc, od, .func (PySem.W.fnOf x x pg bg sg dV kV doc pm an cdv ct), osl⟩) (hcg : PySem.W.codeIn X.K cdv x = true) (hb : L2.Binds X.K (PySem.W.fnOf x x pg bg sg dV kV doc pm an cdv ct) [p0, a] []) (Sg : FnScope Ng [p0, a] sg) (hNg : Ng[1]? = some a) (hva : Vis sg a)
    (hG : ∀ E : XK, GivesTo1 X (k + 1) Ng x sg g cdv bg a (X.env.qual ++ "<lambda>") E (TT E)) (TB : TabB X.base X.mg c P) (hcode : X.env.code = .ref c) (hr : Room (k + 2) X.A) (L : LamS1 z X.env.scope scope) (hz : z ∉ X.N) (hdef : defaultsOf params X.env = ([], []))
    (hbind : ∀ (q : Str) (cl : List (Str × Addr)) (pm cv ctv u : Value), bindArgs (PySem.W.kla_fn "<lambda>" q params body scope cl pm cv ctv) ⟨[u], []⟩ = pure [(z, u)])
    (hx : ∀ σ, PassesAt (L2.CX X.prog X.w) X σ (E σ)) (he : PE X e0 te)
    (hbody : ∀ (A : Around) (outer : List Env) (s : Shared) (H : Hp) (E : XK) (f c' : Addr), Room k (A.deeper (lamEnv X scope s.heap.objs.size f c')) → PE (lamCx1 X A outer s H E scope f c' z) body (t E))
    (hst : starEach [e0, .Lambda params body scope lpos] X.env = (false, eval e0 X.env) :: starEach [.Lambda params body scope lpos] X.env := by rfl)
    (hdb : (x == ("__debug__" : Str)) = false := by decide) (hd : (a == ("__debug__" : Str)) = false := by decide) (hcd : (a == ("__classdict__" : Str)) = false := by decide) :
    PE X (.Call (.Name x p) [e0, .Lambda params body scope lpos] [] pos) (fun σ => tLam1 P (X.env.qual ++ "<lambda>") (TT (E σ)) te t σ) := by
  refine ⟨fun pins s σ H Q I h => ?_⟩
  refine wpAny_Call_Name_kw (ld_glob I hg hm ?_ hdb)
  refine PySem.W.callWith_K (h₀ := X.base) I.ok.mod.kin hk ?_ hst (by rfl)
  rw [hst]
  show wpAny _ _ (spliced ((false, eval e0 X.env) :: backTo pos (starEach [.Lambda params body scope lpos] X.env))) _ _ s
  refine Calls.spliced_cons (thn (he.run pins s σ H _ I h) fun u0 s0 ⟨v0, H0, I0, r0, ps, hT, h⟩ => ?_)
  show wpAny _ _ (spliced ((false, eval (.Lambda params body scope lpos) X.env) :: backTo pos (starEach [] X.env))) _ _ s0
  refine Calls.spliced_cons (lam_make3 I0 TB hcode hT hdef (L.has I.ok) fun f c' pm' ctv H1 s' I1 eN hf hfn hfr hco => ?_)
  refine Calls.spliced_nil ⟨I1.kIn, ?_⟩
  exact lam1_call I1 hNg hva lk hcg Sg (hG (E σ)) hr L hz hbind hbody (hx σ) hf hfn hfr hco r0 (hb s' [u0, .ref f] I1.kIn rfl) (h H1 eN) hd hcd
theorem pe_lam1K {TT : XK → (XK → V → Hp → VK → Prop) → V → Hp → VK → Prop} {x a p0 y z : Str} {g c P : Addr} {k i : Nat} {pg : Arguments} {bg : List Stmt} {sg : Scope} {dV kV doc pm cdv ct oc : Value} {an od : Option Addr} {osl : Array (Option Value)} {Ng : List Str}
    {params : Arguments} {body : Expr} {scope : Scope} {t : XK → TE} {E : L2.St → XK} {p lpos pos ypos k1 k2 : Pos} (hg : Gl X x) (hm : X.mg x = some (.ref g)) (hk : PySem.W.keepIn X.K (.ref g) = true)
    (lk : X.K.lookup g = some ⟨oc, od, .func (PySem.W.fnOf x x pg bg sg dV kV doc pm an cdv ct), osl⟩) (hcg : PySem.W.codeIn X.K cdv x = true)
    (hb : ∀ (s : Shared) (u0 u1 : Value), X.K.In s.heap → BindsTo s (PySem.W.fnOf x x pg bg sg dV kV doc pm an cdv ct) ⟨[], [a, p0].zip [u1, u0]⟩ ([p0, a].zip [u0, u1])) (Sg : FnScope Ng [p0, a] sg) (hNg : Ng[1]? = some a) (hva : Vis sg a)
    (hG : ∀ E : XK, GivesTo1 X (k + 1) Ng x sg g cdv bg a (X.env.qual ++ "<lambda>") E (TT E)) (TB : TabB X.base X.mg c P) (hcode : X.env.code = .ref c) (hr : Room (k + 2) X.A) (L : LamS1 z X.env.scope scope) (hz : z ∉ X.N) (hdef : defaultsOf params X.env = ([], []))
    (hbind : ∀ (q : Str) (cl : List (Str × Addr)) (pm cv ctv u : Value), bindArgs (PySem.W.kla_fn "<lambda>" q params body scope cl pm cv ctv) ⟨[u], []⟩ = pure [(z, u)])
    (hx : ∀ σ, PassesAt (L2.CX X.prog X.w) X σ (E σ)) (hN : X.N[i]? = some y) (hv : Vis X.env.scope y)
    (hbody : ∀ (A : Around) (outer : List Env) (s : Shared) (H : Hp) (E : XK) (f c' : Addr), Room k (A.deeper (lamEnv X scope s.heap.objs.size f c')) → PE (lamCx1 X A outer s H E scope f c' z) body (t E))
    (hdb : (x == ("__debug__" : Str)) = false := by decide) (hd : (a == ("__debug__" : Str)) = false := by decide) (hcd : (a == ("__classdict__" : Str)) = false := by decide) (hyd : (y == ("__debug__" : Str)) = false := by decide) (hycd : (y == ("__classdict__" : Str)) = false := by decide) :
    PE X (.Call (.Name x p) [] [⟨some a, .Lambda params body scope lpos, k1⟩, ⟨some p0, .Name y ypos, k2⟩] pos) (fun σ => tLam1K P (X.env.qual ++ "<lambda>") (TT (E σ)) i t σ) := by
  refine ⟨fun pins s σ H Q I h => ?_⟩
  obtain ⟨ps, v0, hv0, hT, h⟩ := h
  refine wpAny_Call_Name_kw (ld_glob I hg hm ?_ hdb)
  refine PySem.W.callWith_KW0 (h₀ := X.base) I.ok.mod.kin hk (by rfl) ?_ (by rfl)
  show wpAny _ _ (evalAll ((do let v ← eval (.Lambda params body scope lpos) X.env; standAt pos; pure v) :: (do let v ← eval (.Name y ypos) X.env; standAt pos; pure v) :: [])) _ _ s
  refine wpAny_evalAll_cons (wpAny_bind (lam_make3 I TB hcode hT hdef (L.has I.ok) fun f c' pm' ctv H1 s' I1 eN hf hfn hfr hco => wpAny_bind (wpAny_standAt (wpAny_pure ?_))))
  obtain ⟨m, hn, hl⟩ := I1.loc
  obtain ⟨u0, r0, l⟩ := hl i y v0 hN hv0 hv
  refine wpAny_evalAll_cons (wpAny_bind ?_)
  have fin : wpAny (model X.prog X.w) X.A (standAt pos) (fun _ s2 => wpAny (model X.prog X.w) X.A (pure u0 : Sem Value) (fun v s3 => wpAny (model X.prog X.w) X.A (evalAll []) (fun vs s4 => X.K.In s4.heap ∧ wpAny (model X.prog X.w) X.A (call (.ref g) ([] ++ []) (((backToKw pos (keywordEach [⟨some a, .Lambda params body scope lpos, k1⟩, ⟨some p0, .Name y ypos, k2⟩] X.env)).filterMap (·.1)).zip (.ref f :: v :: vs))) (EP X pins σ Q) X.xe s4) X.xe s3) X.xe s2) X.xe s' := by
    refine wpAny_standAt (wpAny_pure (wpAny_evalAll_nil ⟨I1.kIn, ?_⟩))
    exact lam1_call I1 hNg hva lk hcg Sg (hG (E σ)) hr L hz hbind hbody (hx σ) hf hfn hfr hco r0 (hb s' u0 (.ref f) I1.kIn) (h H1 eN) hd hcd
  rcases l with ⟨hk, hm⟩ | ⟨hk, c, hc, hcell⟩
  · exact wpAny_Name (wpAny_loadName_local I1.ok.kind hk hn hm (wpAny_bind fin)) hyd
  · rcases hk with hk | hk
    · exact wpAny_Name (wpAny_loadName_cell I1.ok.kind hk hc hcell (wpAny_bind fin)) hyd
    · exact wpAny_Name (wpAny_loadName_free I1.ok.kind hk hc hcell (wpAny_bind fin) hycd) hyd
end
end LamX
namespace L3
open PySem PySem.Spec L2
theorem codeO_heap (c' : Addr) (q : Str) : ∃ h : Heap, ∃ (oc : Obj) (vs : Array Value) (t : Tok), h.get? c' = some oc ∧ oc.data = .fields vs ∧ vs[1]? = some (.str q t) := by
  refine ⟨{ objs := Array.replicate (c' + 1) { cls := .none, data := .fields #[.none, .str q default] } }, { cls := .none, data := .fields #[.none, .str q default] }, #[.none, .str q default], default, ?_, rfl, rfl⟩
  unfold Heap.get?
  simp
theorem ext_inj {p p' : Heap → Prop} (e : HO.ext p = HO.ext p') : p = p' := by cases e; rfl
theorem codeO_ne_seen {c' : Addr} {q : Str} {xs : List (NestedKey × Addr)} : LamX.CodeO c' q ≠ seenHO c' xs := fun e => by
  obtain ⟨h, hh⟩ := codeO_heap c' q
  unfold LamX.CodeO seenHO at e
  have e2 := congrFun (ext_inj e) h
  have h2 := e2 ▸ hh
  obtain ⟨_, _, _, _, o, es, ep, g, _, d, _⟩ := h2
  obtain ⟨oc, vs, t, g', d', _⟩ := hh
  rw [g] at g'
  cases g'
  rw [d] at d'
  cases d'
theorem codeO_notin {K : PySem.W.Frag} {al be : List Addr} {H : Hp} {m : Sto} {c' : Addr} {q : Str} (s : SS K al be H m) (h : H c' = some (LamX.CodeO c' q)) : c' ∉ al := fun hc => by
  obtain ⟨k, hk⟩ := List.getElem?_of_mem hc
  have hl : k < m.length := by
    rw [← s.len]
    exact (List.getElem?_eq_some_iff.mp hk).1
  have r := s.obj k c' _ hk (List.getElem?_eq_getElem hl)
  generalize m[k] = o at r
  cases o with
  | sn ks =>
    obtain ⟨xs, e, _⟩ := r
    exact codeO_ne_seen (Option.some.inj (h.symm.trans e))
  | lst ds =>
    obtain ⟨vs, e, _⟩ := r
    cases h.symm.trans e
  | dK ds =>
    obtain ⟨vs, e, _⟩ := r
    cases h.symm.trans e
  | dT ds =>
    obtain ⟨vs, e, _⟩ := r
    cases h.symm.trans e
  | ins c fs =>
    obtain ⟨dx, vs, e, _⟩ := r
    cases h.symm.trans e
  | tab q' =>
    obtain ⟨_, ps, e, _⟩ := r
    cases h.symm.trans e
theorem codeO_chg {K : PySem.W.Frag} {al al' be : List Addr} {H H' : Hp} {m : Sto} {c' : Addr} {q : Str} (s : SS K al be H m) (ch : Chg al H al' H') (h : H c' = some (LamX.CodeO c' q)) : H' c' = some (LamX.CodeO c' q) :=
  ch.keep _ _ h (codeO_notin s h)
end L3
namespace L3
open PySem PySem.Spec L2
open PyProof.Rows hiding St
def sRaiseK : GS := fun _ m => .ex ⟨"KeyError", [], []⟩ m
section
variable {X : Cx} {E : XK} {p p2 pos pos' : Pos} {t : Str} {j : Nat}
theorem ds_raiseK (hc : X.calm = true) (tk : Takes X fun cls d _ H => E cls d H) (hg : Gl X "KeyError") (hm : X.mg "KeyError" = none) :
    DS X E (.Raise (some (.Call (.Name "KeyError" p) [.Constant (.str t) j p2] [] pos)) none pos') sRaiseK := by
  refine psImp (ps_raise hc tk (pmk_exc excClass_KeyError ty_KeyError hg hm boot_KeyError (pa_cons pe_str pa_nil))) fun D σ H ⟨al, be, m, en, s, l, h⟩ => ?_
  refine ⟨by show 1 ≤ sizeLine; decide, fun d => ?_⟩
  exact h al H _ _ Chg.refl s (RX.mkKey rfl)
end
def NoKE (K : PySem.W.Frag) (ns : List Str) : Prop := ∀ c ∈ ns, PySem.W.exmOne K (.ref (He.ga K c)) (.type "KeyError") = some false
def sTryK (ns : List Str) (sub : Str → Str → Option Bool) (gk : GS) (cl : List (Str × Option Nat × GS)) (gb : GS) : GS := fun en m => match gb en m with
  | .ex x m1 => if x.c = "KeyError" then calmS (gk en m1) else if x.c ∈ ns then hTryN sub cl x en m1 else .bad
  | o => o
section
variable {X : Cx} {E : XK} {sub : Str → Str → Option Bool} {pos np pos' : Pos} {ns : List Str}
theorem ds_tryK {body suite : List Stmt} {b₀ : Stmt} {hds : List ExceptHandler} {cl : List (Str × Option Nat × GS)} {gb gk : GS} (hs : X.stack = X.env :: X.outer) (hf : X.env.frame = some X.env.locals) (hN : X.N.Nodup) (tk : Takes X fun cls d _ H => E cls d H)
    (hb : ∀ (E' : St → XK) (pn : List (Addr × Obj)) (xe : Value → Shared → Prop), (∀ σ, PassesAt (L2.CX X.prog X.w) (X.tr pn xe) σ (E' σ)) → PassesOwn (model X.prog X.w) X.A X.env xe → DSsσ (X.tr pn xe) E' body gb)
    (hg : Gl X "KeyError") (hm : X.mg "KeyError" = none) (hn : NoKE X.K ns) (hk : ∀ (a : Addr) (pn : List (Addr × Obj)), DSs (X.suite a pn) E0 (b₀ :: suite) gk)
    (hh : HdN X sub hds cl) : DS X E (.Try body (.ExceptHandler (some (.Name "KeyError" np)) none (b₀ :: suite) pos' :: hds) [] [] pos) (sTryK ns sub gk cl gb) := by
  refine psImp (ps_tryT hs hf hN tk (tb := fun W => tSσ X.K (WE W) gb) (l := (.type "KeyError", none, tS X.K E0 gk) :: clN X.K cl) (fun W pn xe tkW po => hb (WE W) pn xe (fun σ => passAt tkW σ) po) (.consN (names_blt hg hm boot_KeyError) hk hh.toT)) fun D σ H ⟨al, be, m, en, s, l, h⟩ => ?_
  refine ⟨al, be, m, en, s, l, ?_⟩
  unfold sTryK at h
  cases eo : gb en m with
  | ex x m1 =>
    rw [eo] at h
    dsimp only at h
    intro al' H' c dx ch s1 rx
    by_cases hke : x.c = "KeyError"
    · rw [if_pos hke] at h
      refine ⟨true, by rw [rx.key hke]; exact exm_KE, fun _ => .inr ⟨rfl, ?_⟩, nofun⟩
      refine ⟨al', be, m1, en, s1, l.chg ch, ?_⟩
      have h2 := PostS.chg h ch
      cases eo : gk en m1 with
      | nx en2 m2 => rw [eo] at h2; exact h2
      | bk en2 m2 => rw [eo] at h2; exact h2
      | ct en2 m2 => rw [eo] at h2; exact h2
      | rt d m2 => rw [eo] at h2; exact h2
      | ex x2 m2 => rw [eo] at h2; exact h2.elim
      | bad => rw [eo] at h2; exact h2.elim
    · rw [if_neg hke] at h
      by_cases hx : x.c ∈ ns
      · rw [if_pos hx] at h
        refine ⟨false, by rw [(rx.own hke).1]; exact hn _ hx, nofun, fun _ => ?_⟩
        exact hTryN_okE ch s1 (l.chg ch) hke rx hh h
      · rw [if_neg hx] at h
        exact h.elim
  | nx en2 m2 => rw [eo] at h; exact h
  | bk en2 m2 => rw [eo] at h; exact h
  | ct en2 m2 => rw [eo] at h; exact h
  | rt d m2 => rw [eo] at h; exact h
  | bad => rw [eo] at h; exact h
end
end L3
namespace L3
open PySem PySem.Spec L2
open PyProof.Rows hiding St
def rehM (c : Str) (FE FX : FM) (gc : GE) (L : D → Sto → Out D) (d : D) (m : Sto) : Out D :=
  match gc [some d, none, some .non, none] m with
  | .ok o m1 => (match insOf m1 o with
    | some (c', _) => if c' = c then (match FE [o] m1 with
      | .ok v m2 => (match L v m2 with
        | .ok r m3 => (match FX [o] m3 with
          | .ok .non m4 => .ok r m4
          | _ => .bad)
        | .ex x m3 => (match FX [o] m3 with
          | .ok .non m4 => .ex x m4
          | _ => .bad)
        | .bad => .bad)
      | _ => .bad) else .bad
    | none => .bad)
  | _ => .bad
def TTR (K : PySem.W.Frag) (M : (D → Sto → Out D) → D → Sto → Out D) (E : XK) : (XK → V → Hp → VK → Prop) → V → Hp → VK → Prop := fun tl v0 H Q => ∃ (al be : List Addr) (m : Sto) (d : D) (L : D → Sto → Out D), SS K al be H m ∧ RD K al be H d v0 ∧
  (∀ (al1 : List Addr) (H1 : Hp) (m1 : Sto) (d1 : D) (v1 : V) (E1 : XK) (Q1 : VK), Chg al H al1 H1 → SS K al1 be H1 m1 → RD K al1 be H1 d1 v1 → Post K al1 be H1 E1 (L d1 m1) (fun d al' H' _ => ∀ v, RD K al' be H' d v → Q1 v H') → tl E1 v1 H1 Q1) ∧
  Post K al be H E (M L d m) (fun d al' H' _ => ∀ v, RD K al' be H' d v → Q v H')
theorem fnOk_mono {P : Program} {w : World} {K : PySem.W.Frag} {mg : Str → Option Value} {base : Heap} {CX : CXT} {j k : Nat} {f : Addr} {fd : FuncData} {ps : List Str} {sp : Sp} (F : FnOk P w K mg base CX j f fd ps sp) (h : j ≤ k) : FnOk P w K mg base CX k f fd ps sp :=
  ⟨F.len, fun {_ _ _ _ _ _ _ _ _} hr e0 hb r hs => F.run _ _ _ _ _ _ _ _ _ (hr.mono h) e0 hb r hs⟩
theorem fnM_mono {P : Program} {w : World} {K : PySem.W.Frag} {mg : Str → Option Value} {base : Heap} {CX : CXT} {j k : Nat} {f : Addr} {fd : FuncData} {ps : List Str} {sp : Sp} (F : FnM P w K mg base CX j f fd ps sp) (h : j ≤ k) : FnM P w K mg base CX k f fd ps sp :=
  ⟨F.len, fun _ _ _ _ _ _ _ _ _ _ hr hp e0 hb r hs => F.run _ _ _ _ _ _ _ _ _ _ (hr.mono h) hp e0 hb r hs⟩
section
variable {X : Cx} {Ng : List Str} {x a y2 y3 q c : Str} {sg : Scope} {g : Addr} {cdg : Value} {k ke kx j1 jd : Nat} {doc : Str} {pd1 pd2 p1 p2 p3 p4 p5 p6 p7 p8 p9 q1 q2 q3 pw : Pos} {ctx : Expr} {gc : GE} {E : XK} {CE CX' : CXT} {FE FX : FM}
abbrev rehX (X : Cx) (Ng : List Str) (x : Str) (sg : Scope) (g : Addr) (cdg : Value) (s : Shared) (H : Hp) (E : XK) : Cx := cxOf (L2.CX X.prog X.w) X.prog X.w X.K X.mg X.base Ng x sg g cdg X.A X.stack s H E
theorem reh_gives (hN : Ng.Nodup) (h4 : Ng.length = 4) (h2 : Ng[2]? = some y2) (h3 : Ng[3]? = some y3) (hy2 : sg.names.lookup y2 = some .local) (hy3 : sg.names.lookup y3 = some .local) (hd3 : (y3 == ("__debug__" : Str)) = false) (hc3 : (y3 == ("__classdict__" : Str)) = false) (hd2 : (y2 == ("__debug__" : Str)) = false) (hc2 : (y2 == ("__classdict__" : Str)) = false)
    (hc : ∀ (s : Shared) (H : Hp), Room k (X.A.deeper (envOfC x sg s.heap.objs.size g cdg)) → DE (rehX X Ng x sg g cdg s H E) E0 ctx gc)
    (GE' : CalM X.prog X.w X.K X.mg X.base CE ke c "__enter__" 1 FE) (GX : CalW X.prog X.w X.K X.mg X.base CX' kx c "__exit__" FX) (hke : ke ≤ k) (hkx : kx ≤ k)
    (hxE : ∀ Z : Cx, Passes CE Z E0) (hxX : ∀ Z : Cx, Passes CX' Z E0)
    (hs1 : ∀ (s : Shared) (H : Hp), swapsWith (.Constant .none j1 p1) (some (.Name y2 p2)) p3.line (rehX X Ng x sg g cdg s H E).env = pure false)
    (hs2 : ∀ (s : Shared) (H : Hp), swapsWith (.Call (.Name a p5) [.Name y3 p6] [] p7) (some (.Name y2 p4)) p8.line (rehX X Ng x sg g cdg s H E).env = pure false) :
    LamX.GivesTo1 X k Ng x sg g cdg [.Assign [.Name y2 p2] (.Constant .none j1 p1) p3, .With [⟨ctx, some (.Name y3 q1)⟩] [.Assign [.Name y2 p4] (.Call (.Name a p5) [.Name y3 p6] [] p7) p8] pw, .Return (some (.Name y2 p9)) q2] a q E (TTR X.K (rehM c FE FX gc) E) := by
  intro f c' s H v0 Q tl act hr hco ⟨al, be, m, d, L, ss, rd, lc, h⟩
  obtain ⟨fe, fdE, psE, hFE, hmE, _, hbE⟩ := GE'.ex
  obtain ⟨fx, fdX, psX, hFX, hFM, hmX, _, hbX⟩ := GX.ex
  let Z := rehX X Ng x sg g cdg s H E
  have tk : Takes Z fun cls d _ H => E cls d H := takes_of rfl rfl rfl rfl
  have hi3 : 3 < Ng.length := by omega
  refine ⟨_, pss_cons (ps_set (X := Z) hN h2 (.inl hy2) pe_non (hs1 s H) (.inr hy2)) (pss_cons (ps_with (X := Z) (te := tG X.K E0 gc)
    (tb := fun W => tAsg (fun σZ HZ Q => σZ[1]? = some (some (.ref f)) ∧ (tCons (tVar 3) tNil) σZ HZ fun vs H1 => ∃ v, vs = [v] ∧ H1 c' = some (LamX.CodeO c' q) ∧ tl (fun cls d H' => ∀ σ', W cls d σ' H') v H1 Q) (gName 2))
    (Wout := fun cls d _ H => E cls d H) rfl rfl rfl tk hN h3 (.inl hy3) (hc s H hr) hmE hmX (fnOk_mono hFE hke) (fnOk_mono hFX hkx) (fnM_mono hFM hkx) hr hbE hbX (hxE _) (hxX _) (fun _ _ => hxX _)
    (fun W pn xe tkW po => pss_one (ps_set (X := Z.tr pn xe) hN h2 (.inl hy2) (act W pn xe (fun cls d H' => ∀ σ', W cls d σ' H') (.Name y3 p6) (tCons (tVar 3) tNil) p5 p7 tkW (fun cls d σ' H' h => h σ') (pa_cons (pe_var (X := Z.tr pn xe) h3 (.inl hy3) hd3 hc3) pa_nil) rfl) (hs2 s H) (.inr hy2))) (.inr hy3))
    (pss_one (ps_ret (pe_var (X := Z) h2 (.inl hy2) hd2 hc2)))), ?_⟩
  have est : L2.start Ng [v0, V.ref f] = [some v0, some (V.ref f), none, none] := by
    unfold L2.start
    rw [h4]; rfl
  rw [est]
  unfold tSeq
  unfold tAsg gName tC
  unfold tWith
  show tG X.K E0 gc [some v0, some (V.ref f), some .non, none] H _
  have sl : SL X.K al be H [some v0, some (V.ref f), some .non, none] [some d, none, some .non, none] := ⟨rfl, fun i e he => by
    match i, he with
    | 0, he => cases he; exact ⟨v0, rfl, rd⟩
    | 1, he => cases he
    | 2, he => cases he; exact ⟨.non, rfl, rd_non.mpr rfl⟩
    | 3, he => cases he
    | i + 4, he => cases he⟩
  refine ⟨al, be, m, _, ss, sl, ?_⟩
  unfold rehM at h
  cases eo : gc [some d, none, some .non, none] m with
  | bad => rw [eo] at h; exact h.elim
  | ex z m1 => rw [eo] at h; exact h.elim
  | ok o m1 =>
    rw [eo] at h
    intro al1 H1 c1 s1 v rv
    dsimp only at h
    split at h
    · rename_i cc fs ei
      split at h
      · rename_i hcc
        subst hcc
        obtain ⟨xa, dx, vs, rfl, hv, _⟩ := insOf_ok s1 rv ei
        refine ⟨xa, dx, vs, rfl, hv, al1, be, m1, [o], s1, .cons rv .nil, rfl, ?_⟩
        split at h
        · rename_i v2 m2 ev
          rw [ev]
          intro al2 H2 c2 s2 w2 rw2
          have ro := c2.rd rv
          have hco2 : H2 c' = some (LamX.CodeO c' q) := codeO_chg ss (c1.trans c2) hco
          refine ⟨rfl, w2, rfl, w2, rfl, hco2, lc al2 H2 m2 v2 w2 _ _ (c1.trans c2) s2 rw2 ?_⟩
          have h2' := Post.chg h (c1.trans c2)
          cases eg : L v2 m2 with
          | bad => rw [eg] at h2'; exact h2'.elim
          | ok r3 m3 =>
            rw [eg] at h2'
            dsimp only at h2'
            split at h2'
            · rename_i m4 e4
              exact fun a3 H3 c3 s3 v3 rv3 => exit_sp s3 (c3.rd ro) e4 fun a4 H4 c4 s4 => ⟨v3, rfl, h2' a4 H4 (c3.trans c4) s4 v3 (c4.rd rv3)⟩
            · exact h2'.elim
          | ex x3 m3 =>
            rw [eg] at h2'
            dsimp only at h2'
            split at h2'
            · rename_i m4 e4
              exact fun a3 H3 cl dx3 c3 s3 r3 σ' => ⟨(rx_rel r3).choose, (rx_rel r3).choose_spec, fun ev tv => exit_sp s3 (c3.rd ro) e4 fun a4 H4 c4 s4 => h2' a4 H4 cl dx3 (c3.trans c4) s4 (rx_chg c4 r3)⟩
            · exact h2'.elim
        · exact h.elim
      · exact h.elim
    · exact h.elim
end
structure CalR (P : Program) (w : World) (K : PySem.W.Frag) (mg : Str → Option Value) (base : Heap) (k : Nat) (x : Str) (M : (D → Sto → Out D) → D → Sto → Out D) : Prop where
  ex : ∃ (g : Addr) (p0 a : Str) (pg : Arguments) (bg : List Stmt) (sg : Scope) (dV kV doc pm cdv ct oc : Value) (an od : Option Addr) (osl : Array (Option Value)) (Ng : List Str), mg x = some (.ref g) ∧ PySem.W.keepIn K (.ref g) = true ∧
    K.lookup g = some ⟨oc, od, .func (PySem.W.fnOf x x pg bg sg dV kV doc pm an cdv ct), osl⟩ ∧ PySem.W.codeIn K cdv x = true ∧ L2.Binds K (PySem.W.fnOf x x pg bg sg dV kV doc pm an cdv ct) [p0, a] [] ∧
    (∀ (s : Shared) (u0 u1 : Value), K.In s.heap → BindsTo s (PySem.W.fnOf x x pg bg sg dV kV doc pm an cdv ct) ⟨[], [a, p0].zip [u1, u0]⟩ ([p0, a].zip [u0, u1])) ∧ FnScope Ng [p0, a] sg ∧ Ng[1]? = some a ∧ Vis sg a ∧
    (p0 = "pool" ∧ a = "action") ∧ ∀ (X : Cx) (q : Str) (E : XK), X.prog = P → X.w = w → X.K = K → X.mg = mg → X.base = base → LamX.GivesTo1 X k Ng x sg g cdv bg a q E (TTR K M E)
theorem CalR.mono {P : Program} {w : World} {K : PySem.W.Frag} {mg : Str → Option Value} {base : Heap} {j k : Nat} {x : Str} {M : (D → Sto → Out D) → D → Sto → Out D} (C : CalR P w K mg base j x M) (h : j ≤ k) : CalR P w K mg base k x M := by
  obtain ⟨g, p0, a, pg, bg, sg, dV, kV, doc, pm, cdv, ct, oc, an, od, osl, Ng, hm, hk, lk, hcg, hb, hbk, Sg, hNg, hva, e, hG⟩ := C.ex
  exact ⟨g, p0, a, pg, bg, sg, dV, kV, doc, pm, cdv, ct, oc, an, od, osl, Ng, hm, hk, lk, hcg, hb, hbk, Sg, hNg, hva, e, fun X q E e1 e2 e3 e4 e5 f c' s H v0 Q tl act hr => hG X q E e1 e2 e3 e4 e5 f c' s H v0 Q tl act (hr.mono h)⟩
theorem calR_of {P : Program} {w : World} {K : PySem.W.Frag} {mg : Str → Option Value} {base : Heap} {k : Nat} {x : Str} {params : Arguments} {body : List Stmt} {scope : Scope} {kws : List (Str × V)} {g : Addr} {fd : FuncData} {Ng : List Str} {M : (D → Sto → Out D) → D → Sto → Out D}
    (T : FunD K x x params body scope [] kws g fd) (S : FnScope Ng ["pool", "action"] scope) (hm : mg x = some (.ref g)) (hb : L2.Binds K fd ["pool", "action"] []) (hbk : ∀ (s : Shared) (u0 u1 : Value), BindsTo s fd ⟨[], (["action", "pool"] : List Str).zip [u1, u0]⟩ ((["pool", "action"] : List Str).zip [u0, u1])) (hN : Ng[1]? = some ("action" : Str)) (hv : Vis scope "action")
    (hG : ∀ (cdv : Value) (X : Cx) (q : Str) (E : XK), X.prog = P → X.w = w → X.K = K → X.mg = mg → X.base = base → LamX.GivesTo1 X k Ng x scope g cdv body "action" q E (TTR K M E)) : CalR P w K mg base k x M := by
  obtain ⟨oc, od, dV, kV, doc, pm, an, cdv, ct, osl, rfl, lk, hcd, _, _⟩ := T.ex
  exact ⟨g, "pool", "action", params, body, scope, dV, kV, doc, pm, cdv, ct, oc, an, od, osl, Ng, hm, T.kp, lk, hcd, hb, fun s u0 u1 _ => hbk s u0 u1, S, hN, hv, ⟨rfl, rfl⟩, hG cdv⟩
def WalksC2 (CX : CXT) (P : Program) (w : World) (K : PySem.W.Frag) (mg : Str → Option Value) (base : Heap) (k : Nat) (N : List Str) (qual : Str) (scope : Scope) (f : Addr) (cdv : Value) (body : List Stmt) (g : GS) : Prop :=
  ∀ (A : Around) (outer : List Env) (s : Shared) (H : Hp) (E : XK), Room k (A.deeper (envOfC qual scope s.heap.objs.size f cdv)) → DSs (cxOf CX P w K mg base N qual scope f cdv A outer s H E) E body g
theorem fnOk_ofC2 {CX : CXT} {P : Program} {w : World} {K : PySem.W.Frag} {mg : Str → Option Value} {base : Heap} {k : Nat} {fd : FuncData} {x qual : Str} {params : Arguments} {body : List Stmt} {scope : Scope} {dvs : List V} {kws : List (Str × V)} {N ps : List Str} {g : GS} {ext : Nat → D → Sto → Out D} {d : Str × Option Str}
    (T : FunD K x qual params body scope dvs kws (He.fAd K d) fd) (S : FnScope N ps scope) (hx : ExtOk ext) (walk : WalksC2 CX P w K mg base k N qual scope (He.fAd K d) (.ref (He.cT K d).1) body g) : FnOk P w K mg base CX (k + 1) (He.fAd K d) fd ps (SpF K ps.length (runF ext N.length g)) := by
  obtain ⟨oc, od, dV, kV, doc, pm, an, cdv, ct, osl, rfl, lk, hcd, _, _⟩ := T.ex
  have ec := code_is T rfl lk hcd
  subst ec
  exact fn_of lk hcd S (fun vs H Q E ⟨al, be, m, ds, ss, rr, hl, _⟩ => by rw [rr.length, hl]) fun A outer s H vs Q E hr h => ⟨_, walk A outer s H E hr, body_ok (K := K) hx (fun _ _ => rfl) h⟩
def gReh (kk : Nat) (q : Str × Str × Option Str) (M : (D → Sto → Out D) → D → Sto → Out D) (g0 : GE) (gl : GE) : GE := fun en m => (g0 en m).bind fun d m0 => match m0[kk]? with
  | some (.tab q') => if q' = q then M (fun z m' => gl (en ++ [some z]) m') d m0 else .bad
  | _ => .bad
theorem SL.snoc {K : PySem.W.Frag} {al be : List Addr} {H : Hp} {σ : St} {en : Sl} {d : D} {v : V} (l : SL K al be H σ en) (r : RD K al be H d v) : SL K al be H (σ ++ [some v]) (en ++ [some d]) := by
  refine ⟨by rw [List.length_append, List.length_append, l.len]; rfl, fun i e h => ?_⟩
  by_cases hi : i < en.length
  · rw [List.getElem?_append_left hi] at h
    obtain ⟨v', e1, r1⟩ := l.get i e h
    exact ⟨v', by rw [List.getElem?_append_left (by rw [l.len]; exact hi)]; exact e1, r1⟩
  · rw [List.getElem?_append_right (by omega)] at h
    have h0 : i - en.length = 0 := by
      have := (List.getElem?_eq_some_iff.mp h).1
      simpa using this
    rw [h0] at h
    cases h
    exact ⟨v, by rw [List.getElem?_append_right (by rw [l.len]; omega), l.len, h0]; rfl, r⟩
theorem reh_tail {K : PySem.W.Frag} {E : XK} {M : (D → Sto → Out D) → D → Sto → Out D} {q : Str × Str × Option Str} {kk : Nat} {al be : List Addr} {H : Hp} {m : Sto} {σ : St} {en : Sl} {d : D} {v0 : V} {gl : GE} {Q : VK} (s : SS K al be H m) (l : SL K al be H σ en) (rd : RD K al be H d v0)
    (h : Post K al be H E (match m[kk]? with
      | some (.tab q') => if q' = q then M (fun z m' => gl (en ++ [some z]) m') d m else .bad
      | _ => .bad) fun d al' H' _ => ∀ v, RD K al' be H' d v → Q v H') :
    ∃ ps, LamX.TabPs H (He.cT K q.2).2 q.1 ps ∧ ∀ H1, LamX.LamCh H (He.cT K q.2).2 q.1 ps H1 → TTR K M E (fun E v H' Q' => tG K E gl (σ ++ [some v]) H' Q') v0 H1 Q := by
  split at h
  · rename_i q' em
    split at h
    · rename_i eq
      subst eq
      have hkm : kk < m.length := (List.getElem?_eq_some_iff.mp em).1
      have ek := List.getElem?_eq_getElem (l := al) (i := kk) (by rw [s.len]; exact hkm)
      obtain ⟨ea, ps, hP, ht, hT⟩ := s.obj _ _ _ ek em
      have ea2 : al[kk]'(by rw [s.len]; exact hkm) = (He.cT K q'.2).2 := ea
      rw [ea2] at hP ek
      refine ⟨ps, ⟨hP, ht, fun pos cv hc => ?_⟩, fun H1 hH1 => ?_⟩
      · obtain ⟨c, e1, e2⟩ := hT pos cv hc
        exact ⟨c, e1, e2.1⟩
      · obtain ⟨chg, s1⟩ := lam_ss s ek em hP hT hH1
        refine ⟨al, be, m, d, fun z m' => gl (en ++ [some z]) m', s1, chg.rd rd, fun al1 H2 m1 d1 v1 E2 Q1 c1 s2 r1 hp => ⟨al1, be, m1, en ++ [some d1], s2, (l.chg (chg.trans c1)).snoc r1, hp⟩, Post.chg h chg⟩
    · exact h.elim
  · exact h.elim
section
variable {X : Cx}
theorem de_rehσ {E : St → XK} {M : (D → Sto → Out D) → D → Sto → Out D} {x z q1 : Str} {dd : Str × Option Str} {kk k : Nat} {params : Arguments} {body e0 : Expr} {scope : Scope} {gl g0 : GE} {p lpos pos : Pos} (G : CalR X.prog X.w X.K X.mg X.base (k + 1) x M) (hg : Gl X x) (TB : LamX.TabB X.base X.mg (He.cT X.K dd).1 (He.cT X.K dd).2)
    (hcode : X.env.code = .ref (He.cT X.K dd).1) (hq : X.env.qual ++ "<lambda>" = q1) (hr : Room (k + 2) X.A) (L : LamX.LamS1 z X.env.scope scope) (hz : z ∉ X.N) (hdef : defaultsOf params X.env = ([], []))
    (hbind : ∀ (q : Str) (cl : List (Str × Addr)) (pm cv ctv u : Value), bindArgs (PySem.W.kla_fn "<lambda>" q params body scope cl pm cv ctv) ⟨[u], []⟩ = pure [(z, u)])
    (hx : ∀ σ, PassesAt (L2.CX X.prog X.w) X σ (E σ)) (he : ∀ E : XK, DE X E e0 g0)
    (hbody : ∀ (A : Around) (outer : List Env) (s : Shared) (H : Hp) (E : XK) (f c' : Addr), Room k (A.deeper (LamX.lamEnv X scope s.heap.objs.size f c')) → DE (LamX.lamCx1 X A outer s H E scope f c' z) E body gl)
    (hst : starEach [e0, .Lambda params body scope lpos] X.env = (false, eval e0 X.env) :: starEach [.Lambda params body scope lpos] X.env := by rfl)
    (hdb : (x == ("__debug__" : Str)) = false := by decide) : DEσ X E (.Call (.Name x p) [e0, .Lambda params body scope lpos] [] pos) (gReh kk (q1, dd) M g0 gl) := by
  obtain ⟨g, p0, a, pg, bg, sg, dV, kV, doc, pm, cdv, ct, oc, an, od, osl, Ng, hm, hk, lk, hcg, hb, hbk, Sg, hNg, hva, ⟨ep, ea⟩, hG⟩ := G.ex
  subst ep ea
  have he' : PE X e0 (tGσ X.K E g0) := de_σ he
  refine peImp (LamX.pe_lam1 (te := tGσ X.K E g0) (t := fun E => tG X.K E gl) hg hm hk lk hcg hb Sg hNg hva (fun E => hG X _ E rfl rfl rfl rfl rfl) TB hcode hr L hz hdef hbind hx he' hbody hst hdb) fun σ H Q ⟨al, be, m, en, s, l, h⟩ => ?_
  refine ⟨al, be, m, en, s, l, ?_⟩
  unfold gReh at h
  refine Post.bind h fun d al1 H1 m1 c1 s1 h1 v rv => ?_
  have := reh_tail s1 (l.chg c1) rv h1
  rw [hq]
  exact this
theorem de_rehK {E : XK} {M : (D → Sto → Out D) → D → Sto → Out D} {x y z q1 : Str} {dd : Str × Option Str} {kk k i : Nat} {params : Arguments} {body : Expr} {scope : Scope} {gl : GE} {p lpos ypos k1 k2 pos : Pos} (G : CalR X.prog X.w X.K X.mg X.base (k + 1) x M) (hg : Gl X x) (TB : LamX.TabB X.base X.mg (He.cT X.K dd).1 (He.cT X.K dd).2)
    (hcode : X.env.code = .ref (He.cT X.K dd).1) (hq : X.env.qual ++ "<lambda>" = q1) (hr : Room (k + 2) X.A) (L : LamX.LamS1 z X.env.scope scope) (hz : z ∉ X.N) (hdef : defaultsOf params X.env = ([], []))
    (hbind : ∀ (q : Str) (cl : List (Str × Addr)) (pm cv ctv u : Value), bindArgs (PySem.W.kla_fn "<lambda>" q params body scope cl pm cv ctv) ⟨[u], []⟩ = pure [(z, u)])
    (hx : Passes (L2.CX X.prog X.w) X E) (hN : X.N[i]? = some y) (hv : Vis X.env.scope y)
    (hbody : ∀ (A : Around) (outer : List Env) (s : Shared) (H : Hp) (E : XK) (f c' : Addr), Room k (A.deeper (LamX.lamEnv X scope s.heap.objs.size f c')) → DE (LamX.lamCx1 X A outer s H E scope f c' z) E body gl)
    (hdb : (x == ("__debug__" : Str)) = false := by decide) (hyd : (y == ("__debug__" : Str)) = false := by decide) (hycd : (y == ("__classdict__" : Str)) = false := by decide) : DE X E (.Call (.Name x p) [] [⟨some "action", .Lambda params body scope lpos, k1⟩, ⟨some "pool", .Name y ypos, k2⟩] pos) (gReh kk (q1, dd) M (gVar i) gl) := by
  obtain ⟨g, p0, a, pg, bg, sg, dV, kV, doc, pm, cdv, ct, oc, an, od, osl, Ng, hm, hk, lk, hcg, hb, hbk, Sg, hNg, hva, ⟨ep, ea⟩, hG⟩ := G.ex
  subst ep ea
  refine peImp (LamX.pe_lam1K (E := fun _ => E) (t := fun E => tG X.K E gl) hg hm hk lk hcg hbk Sg hNg hva (fun E => hG X _ E rfl rfl rfl rfl rfl) TB hcode hr L hz hdef hbind (fun σ pins => hx pins σ) hN hv hbody hdb (by decide) (by decide) hyd hycd) fun σ H Q ⟨al, be, m, en, s, l, h⟩ => ?_
  unfold gReh gVar at h
  cases ei : en[i]? with
  | none => simp only [ei] at h; exact h.elim
  | some od =>
    cases od with
    | none => simp only [ei] at h; exact h.elim
    | some d =>
      simp only [ei, Out.bind_ok] at h
      obtain ⟨v0, e1, r1⟩ := l.get i d ei
      obtain ⟨ps, h2, h3⟩ := reh_tail s l r1 h
      rw [hq]
      exact ⟨ps, v0, e1, h2, h3⟩
end
end L3
namespace He
open PySem PySem.Spec PyProof.Rows L2
theorem ke_ok {ns : List Str} {K : PySem.W.Frag} (h : keB ns K = true) : ∀ c ∈ ns, PySem.W.exmOne K (.ref (ga K c)) (.type "KeyError") = some false := fun c hc => of_decide_eq_true (List.all_eq_true.mp h c hc)
end He
namespace PySem.W
open PySem PySem.Spec PySem.Calls PyProof.Rows
section
variable {prog : Program} {w : World} {M : Model} {A : Around} {E : Value → Shared → Prop} {s : Shared} {K : Frag} {x C f : Addr} {ox : Obj} {od : Option Obj} {b tb : Value}
end
end PySem.W
namespace L3
open PySem PySem.Spec L2
open PyProof.Rows hiding St
section
variable {X : Cx} {E : St → XK} {CX : CXT} {k n : Nat} {c x : Str} {F : FM} {pos apos : Pos} {o e : Expr} {es : List Expr} {go : GE} {gs : GA}
theorem de_methAσ {pl : Sem Bool} (ho : ∀ E : XK, DE X E o go) (G : CalM X.prog X.w X.K X.mg X.base CX k c x n F) (hr : Room k X.A) (hx : ∀ σ, PassesAt CX X σ (E σ)) (ha : DAσ X E (e :: es) gs) (hst : starEach (e :: es) X.env = (false, eval e X.env) :: starEach es X.env := by rfl) (hpl : (backTo pos (starEach es X.env)).any (·.1) = false := by rfl)
    (ht : eval (.Call (.Attribute o x apos) (e :: es) [] pos) X.env = (do
      let ov ← eval o X.env
      standAt apos.atName
      let (f, first) ← holding [ov] (getMethod ov x pl)
      callWith pos f first (backTo pos (starEach (e :: es) X.env)) (backToKw pos (keywordEach [] X.env))) := by rfl) : DEσ X E (.Call (.Attribute o x apos) (e :: es) [] pos) (gMeth c x n F go gs) := by
  obtain ⟨f, fd, ps, hf, hm, hc, hb⟩ := G.ex
  exact peImp (pe_methσ (ta := tGσ X.K E go) (t := tGsσ X.K E gs) (de_σ ho) hc hm hf hr hb hx ha hst hpl ht) fun σ H Q h => meth_imp (X := X) (E := E σ) σ H Q h
end
structure OwnF (K : PySem.W.Frag) (c : Str) : Prop where
  ca : PySem.W.findIn K (.ref (He.ga K c)) "__class__" = some (some (.builtin "object.__class__"))
  cn : PySem.W.specialIn K (.builtin "object.__class__") "__get__" = some (some (.builtin "getset_descriptor.__get__"))
  ct : PySem.W.takesIn K (.builtin "object.__class__") = some true
  cm : PySem.W.mroIn K (He.ga K c) (.type "object") = some true
  ne : PySem.W.findIn K (.ref (He.ga K c)) "__ne__" = some (some (.builtin "object.__ne__"))
  me : PySem.W.kitOne K (.ref (He.ga K c)) (.ref (He.ga K c)) = some true
  it : PySem.W.kitOne K (.type "int") (.ref (He.ga K c)) = some false
  tu : PySem.W.kitOne K (.type "tuple") (.ref (He.ga K c)) = some false
  ni : PySem.W.notFirst K (He.ga K c) (.type "int") = true
  nt : PySem.W.notFirst K (He.ga K c) (.type "tuple") = true
section
variable {X : Cx} {CX : CXT} {pins : List (Addr × Obj)} {σ : St} {H : Hp} {s : Shared} {C f : Addr} {fd : FuncData} {ps : List Str} {k : Nat} {sp : Sp} {E : XK} {y : V} {u : Value}
end
section
variable {X : Cx} {CX : CXT} {E : XK} {k : Nat} {c : Str} {F : FM} {p p2 pos : Pos} {a b e : Expr} {ga gb g : GE}
end
end L3
namespace He
open PySem PySem.Spec PyProof.Rows L2
end He
namespace L3
open PySem PySem.Spec L2
open PyProof.Rows hiding St

def Out.sat0 {β : Type} (o : Out β) (P : β → Sto → Prop) : Prop := match o with
  | .ok b m => P b m
  | _ => False
theorem sat_ok0 {β : Type} {b : β} {m : Sto} {P : β → Sto → Prop} : (Out.ok b m).sat0 P = P b m := rfl
theorem sat_bad0 {β : Type} {P : β → Sto → Prop} : (Out.bad : Out β).sat0 P = False := rfl
theorem sat_bind0 {β γ : Type} {o : Out β} {f : β → Sto → Out γ} {P : γ → Sto → Prop} : (o.bind f).sat0 P = o.sat0 fun b m => (f b m).sat0 P := by cases o <;> rfl
theorem sat_if0 {β : Type} {c : Prop} [Decidable c] {a b : Out β} {P : β → Sto → Prop} : (if c then a else b).sat0 P = if c then a.sat0 P else b.sat0 P := by split <;> rfl
theorem sat_nox0 {β : Type} {o : Out β} {P : β → Sto → Prop} : o.nox.sat0 P = o.sat0 P := by cases o <;> rfl
theorem Out.sat0.mono {β : Type} {o : Out β} {P P' : β → Sto → Prop} (h : o.sat0 P) (k : ∀ b m, P b m → P' b m) : o.sat0 P' := by
  cases o with
  | ok b m => exact k b m h
  | ex x m => exact h.elim
  | bad => exact h.elim
theorem Out.sat0.ex {β : Type} {o : Out β} {P : β → Sto → Prop} (h : o.sat0 P) : ∃ b m, o = .ok b m ∧ P b m := by
  cases o with
  | ok b m => exact ⟨b, m, rfl, h⟩
  | ex x m => exact h.elim
  | bad => exact h.elim
theorem sat_of0 {β : Type} {o : Out β} {P : β → Sto → Prop} {b : β} {m : Sto} (e : o = .ok b m) (h : P b m) : o.sat0 P := by rw [e]; exact h
abbrev SlP := Sl → Sto → Prop
def SO.sat0 (o : SO) (N : SlP) (R : D → Sto → Prop) (B C : SlP) : Prop := match o with
  | .nx en m => N en m
  | .rt d m => R d m
  | .bk en m => B en m
  | .ct en m => C en m
  | _ => False
section
variable {N B C : SlP} {R : D → Sto → Prop}
theorem sat_nx0 {en : Sl} {m : Sto} : (SO.nx en m).sat0 N R B C = N en m := rfl
theorem sat_rt0 {d : D} {m : Sto} : (SO.rt d m).sat0 N R B C = R d m := rfl
theorem sat_bk0 {en : Sl} {m : Sto} : (SO.bk en m).sat0 N R B C = B en m := rfl
theorem sat_ct0 {en : Sl} {m : Sto} : (SO.ct en m).sat0 N R B C = C en m := rfl
theorem sat_sbad0 : SO.bad.sat0 N R B C = False := rfl
theorem sat_sif0 {c : Prop} [Decidable c] {a b : SO} : (if c then a else b).sat0 N R B C = if c then a.sat0 N R B C else b.sat0 N R B C := by split <;> rfl
theorem sat_ofOut0 {β : Type} {o : Out β} {f : β → Sto → SO} : (SO.ofOut o f).sat0 N R B C = o.sat0 fun b m => (f b m).sat0 N R B C := by cases o <;> rfl
theorem sat_then0 {o : SO} {f : Sl → Sto → SO} : (o.then f).sat0 N R B C = o.sat0 (fun en m => (f en m).sat0 N R B C) R B C := by cases o <;> rfl
theorem SO.sat0.mono {o : SO} {N' B' C' : SlP} {R' : D → Sto → Prop} (h : o.sat0 N R B C) (hN : ∀ en m, N en m → N' en m) (hR : ∀ d m, R d m → R' d m) (hB : ∀ en m, B en m → B' en m) (hC : ∀ en m, C en m → C' en m) : o.sat0 N' R' B' C' := by
  cases o with
  | nx en m => exact hN _ _ h
  | rt d m => exact hR _ _ h
  | bk en m => exact hB _ _ h
  | ct en m => exact hC _ _ h
  | ex x m => exact h.elim
  | bad => exact h.elim
theorem SO.sat0.not_bad {o : SO} (h : o.sat0 N R B C) : o ≠ .bad := fun e => by rw [e] at h; exact h
end
theorem runF_sat0 {ext : Nat → D → Sto → Out D} {n : Nat} {g : GS} {ds : List D} {m : Sto} {P : D → Sto → Prop} : (runF ext n g ds m).sat0 P = (g (startE n ds) m).sat0 (fun _ m' => (ext m.length .non m').sat0 P) (fun d m' => (ext m.length d m').sat0 P) (fun _ _ => False) (fun _ _ => False) := by
  unfold runF
  cases g (startE n ds) m <;> rfl
theorem gVar_0 {d : D} {en : Sl} {m : Sto} : gVar 0 (some d :: en) m = .ok d m := rfl
theorem gVar_s {i : Nat} {x : Option D} {en : Sl} {m : Sto} : gVar (i + 1) (x :: en) m = gVar i en m := by unfold gVar; simp
theorem nName_eq {i : Nat} {d : D} {en : Sl} {m : Sto} : nName i d en m = .ok (en.set i (some d)) m := rfl
theorem gC_eq {d : D} {en : Sl} {m : Sto} : gC d en m = .ok d m := rfl
theorem forGo_sat0 {src : Src} {t : GT} {b : GS} {N B C : SlP} {R : D → Sto → Prop} (I : Nat → SlP) (hok : ∀ i en m, I i en m → src.ok m = true)
    (step : ∀ i d en m, src.items[i]? = some d → I i en m → (t d en m).sat0 fun en1 m1 => (b en1 m1).sat0 (I (i + 1)) R N (I (i + 1))) (hN : ∀ en m, I src.items.length en m → N en m) :
    ∀ (k i : Nat) (en : Sl) (m : Sto), src.items.length - i = k → i ≤ src.items.length → I i en m → (forGo src t b (src.items.drop i) en m).sat0 N R B C
  | 0, i, en, m, hk, hi, h => by
    have e : i = src.items.length := by omega
    subst e
    rw [List.drop_length]
    exact hN _ _ h
  | k + 1, i, en, m, hk, hi, h => by
    have hlt : i < src.items.length := by omega
    rw [List.drop_eq_getElem_cons hlt]
    unfold forGo
    rw [sat_ofOut0]
    refine (step i _ en m (List.getElem?_eq_getElem hlt) h).mono fun en1 m1 h1 => ?_
    have ih := forGo_sat0 (B := B) (C := C) I hok step hN k (i + 1)
    cases e : b en1 m1 with
    | nx en2 m2 =>
      rw [e] at h1
      simp only [hok _ _ _ h1, if_true]
      exact ih en2 m2 (by omega) (by omega) h1
    | ct en2 m2 =>
      rw [e] at h1
      simp only [hok _ _ _ h1, if_true]
      exact ih en2 m2 (by omega) (by omega) h1
    | bk en2 m2 => rw [e] at h1; exact h1
    | rt d m2 => rw [e] at h1; exact h1
    | ex x m2 => rw [e] at h1; exact h1.elim
    | bad => rw [e] at h1; exact h1.elim
theorem for_sat0 {gi : GI} {t : GT} {b : GS} {en : Sl} {m : Sto} {N B C : SlP} {R : D → Sto → Prop} (I : Src → Nat → SlP)
    (hi : (gi en m).sat0 fun src m1 => (∀ i en m, I src i en m → src.ok m = true) ∧ I src 0 en m1 ∧ (∀ i d en m, src.items[i]? = some d → I src i en m → (t d en m).sat0 fun en1 m1 => (b en1 m1).sat0 (I src (i + 1)) R N (I src (i + 1))) ∧ ∀ en m, I src src.items.length en m → N en m) :
    (sFor gi t b en m).sat0 N R B C := by
  unfold sFor
  rw [sat_ofOut0]
  refine hi.mono fun src m1 ⟨h1, h2, h3, h4⟩ => ?_
  rw [if_pos (h1 0 en m1 h2)]
  exact forGo_sat0 (I src) h1 h3 h4 _ 0 en m1 rfl (Nat.zero_le _) h2
theorem while_sat0 {c : GB} {b : GS} {N B C : SlP} {R : D → Sto → Prop} (I : Nat → SlP)
    (step : ∀ k en m, I k en m → (c en m).sat0 fun kk m1 => if kk = true then (b en m1).sat0 (fun en2 m2 => ∃ k', k' < k ∧ I k' en2 m2) R N (fun en2 m2 => ∃ k', k' < k ∧ I k' en2 m2) else N en m1) {k : Nat} {en : Sl} {m : Sto} (h : I k en m) : (sWhile c b en m).sat0 N R B C := by
  have key : ∀ n k, k < n → ∀ en m, I k en m → (whileN c b n en m).sat0 N R B C := by
    intro n
    induction n with
    | zero => intro k hk; omega
    | succ n ih =>
      intro k hk en m h
      unfold whileN
      rw [sat_ofOut0]
      refine (step k en m h).mono fun kk m1 h1 => ?_
      cases kk with
      | false => exact h1
      | true =>
        simp only [if_true] at h1 ⊢
        cases e : b en m1 with
        | nx en2 m2 =>
          rw [e] at h1
          obtain ⟨k', hk', h1⟩ := h1
          exact ih k' (by omega) _ _ h1
        | ct en2 m2 =>
          rw [e] at h1
          obtain ⟨k', hk', h1⟩ := h1
          exact ih k' (by omega) _ _ h1
        | bk en2 m2 => rw [e] at h1; exact h1
        | rt d m2 => rw [e] at h1; exact h1
        | ex x m2 => rw [e] at h1; exact h1.elim
        | bad => rw [e] at h1; exact h1.elim
  have := key (k + 1) k (Nat.lt_succ_self k) en m h
  rw [sWhile_eq this.not_bad]
  exact this
theorem lcGo_sat0 {src : Src} {t : GT} {c : GB} {g : GE} {en0 : Sl} (I : Nat → List D → Sto → Prop) (hok : ∀ i acc m, I i acc m → src.ok m = true)
    (step : ∀ i d acc m, src.items[i]? = some d → I i acc m → (t d en0 m).sat0 fun en1 m1 => (c en1 m1).sat0 fun k m2 => if k = true then (g en1 m2).sat0 fun y m3 => acc.length < sizeLine ∧ I (i + 1) (acc ++ [y]) m3 else I (i + 1) acc m2) :
    ∀ (k i : Nat) (acc : List D) (m : Sto), src.items.length - i = k → i ≤ src.items.length → I i acc m → (lcGo src t c g en0 (src.items.drop i) acc m).sat0 (I src.items.length)
  | 0, i, acc, m, hk, hi, h => by
    have e : i = src.items.length := by omega
    subst e
    rw [List.drop_length]
    exact h
  | k + 1, i, acc, m, hk, hi, h => by
    have hlt : i < src.items.length := by omega
    rw [List.drop_eq_getElem_cons hlt]
    unfold lcGo
    have ih := lcGo_sat0 (src := src) (t := t) (c := c) (g := g) (en0 := en0) I hok step k (i + 1)
    rw [sat_bind0, sat_nox0]
    refine (step i _ acc m (List.getElem?_eq_getElem hlt) h).mono fun en1 m1 h1 => ?_
    rw [sat_bind0, sat_nox0]
    refine h1.mono fun kk m2 h2 => ?_
    cases kk with
    | true =>
      simp only [if_true] at h2 ⊢
      rw [sat_bind0, sat_nox0]
      refine h2.mono fun y m3 ⟨h3, h4⟩ => ?_
      rw [if_pos ⟨h3, hok _ _ _ h4⟩]
      exact ih _ _ (by omega) (by omega) h4
    | false =>
      simp only [Bool.false_eq_true, if_false] at h2 ⊢
      rw [if_pos (hok _ _ _ h2)]
      exact ih _ _ (by omega) (by omega) h2
theorem lc_sat0 {gi : GI} {t : GT} {c : GB} {g : GE} {vs : List Nat} {en : Sl} {m : Sto} {P : D → Sto → Prop} (I : Src → Nat → List D → Sto → Prop)
    (hi : (gi en m).sat0 fun src m1 => (∀ i acc m, I src i acc m → src.ok m = true) ∧ I src 0 [] m1 ∧ (∀ i d acc m, src.items[i]? = some d → I src i acc m → (t d (wipeE en vs) m).sat0 fun en1 m1 => (c en1 m1).sat0 fun k m2 => if k = true then (g en1 m2).sat0 fun y m3 => acc.length < sizeLine ∧ I src (i + 1) (acc ++ [y]) m3 else I src (i + 1) acc m2) ∧
      ∀ acc m, I src src.items.length acc m → P (.lst acc) m) : (gLc gi t c g vs en m).sat0 P := by
  unfold gLc
  rw [sat_bind0]
  refine hi.mono fun src m1 ⟨h1, h2, h3, h4⟩ => ?_
  rw [if_pos (h1 0 [] m1 h2), sat_bind0]
  exact (lcGo_sat0 (I src) h1 h3 _ 0 [] m1 rfl (Nat.zero_le _) h2).mono fun ds m2 h => h4 _ _ h
theorem sat_guard0 {β : Type} {c : Prop} [Decidable c] {b : β} {m : Sto} {P : β → Sto → Prop} : (if c then Out.ok b m else .bad).sat0 P = (c ∧ P b m) := by
  split
  · rename_i h; exact propext ⟨fun q => ⟨h, q⟩, fun q => q.2⟩
  · rename_i h; exact propext ⟨fun q => q.elim, fun q => absurd q.1 h⟩
section
variable {i j : Int} {m : Sto} {p : Int → Int → Bool} {b : Bool} {x y : Str}
theorem oAdd_i : oAdd (.int i) (.int j) m = .ok (.int (i + j)) m := rfl
theorem oSub_i : oSub (.int i) (.int j) m = .ok (.int (i - j)) m := rfl
theorem oMul_i : oMul (.int i) (.int j) m = if i.natAbs.log2 + j.natAbs.log2 < 1000000 then .ok (.int (i * j)) m else .bad := rfl
theorem oDiv_i : oDiv (.int i) (.int j) m = if 0 < j ∧ j.natAbs.log2 < 9000 then .ok (.int (i / j)) m else .bad := rfl
theorem oMod_i : oMod (.int i) (.int j) m = if 0 < j then .ok (.int (i % j)) m else .bad := rfl
theorem oPow3_i : oPow3 (.int i) (.int j) m = if 0 ≤ j ∧ j ≤ 64 ∧ i.natAbs < 2 ^ 2000 then .ok (.int (i ^ j.toNat)) m else .bad := rfl
theorem oNeg_i : oNeg (.int i) m = .ok (.int (-i)) m := rfl
theorem oI_i : oI p (.int i) (.int j) m = .ok (.bl (p i j)) m := rfl
theorem oLt_i : oLt (.int i) (.int j) m = .ok (.bl (decide (i < j))) m := rfl
theorem oEqS_s {neg : Bool} : oEqS neg (.str x) (.str y) m = .ok (.bl (if neg then !(x == y) else x == y)) m := rfl
theorem truD_b : truD m (.bl b) = some b := rfl
theorem truD_i : truD m (.int i) = some (i != 0) := rfl
theorem bAbs_i : bAbs [.int i] m = .ok (.int (if i < 0 then -i else i)) m := rfl
theorem bInt_b : bInt [.bl b] m = .ok (.int (if b then 1 else 0)) m := rfl
theorem bInt_i : bInt [.int i] m = .ok (.int i) m := rfl
theorem bMax2_i : bMax2 [.int i, .int j] m = .ok (.int (if j > i then j else i)) m := rfl
theorem bMin2_i : bMin2 [.int i, .int j] m = .ok (.int (if j < i then j else i)) m := rfl
theorem oIx_scr {ns : List Int} (h0 : 0 ≤ i) (h1 : i < ns.length) : oIx (.scr ns) (.int i) m = .ok (.int (ns.getD i.toNat 0)) m := by
  unfold oIx seqOf atI ixN
  simp only [List.length_map]
  have e : i.toNat < ns.length := by omega
  have e1 : ¬ i < 0 := by omega
  simp [e1, h1, h0, e, List.getElem?_map, List.getElem?_eq_getElem e, List.getD_eq_getElem?_getD]
theorem ixN_pos {n : Nat} (h0 : 0 ≤ i) (h1 : i < n) : ixN n i = some i.toNat := by
  unfold ixN
  have e1 : ¬ i < 0 := by omega
  simp [e1, h1, h0]
theorem atI_pos {α : Type} {ds : List α} (h0 : 0 ≤ i) (h1 : i < ds.length) : atI ds i = ds[i.toNat]? := by
  unfold atI; rw [ixN_pos h0 h1]; rfl
theorem oIx_seq {d : D} {ds : List D} {e : D} (hs : seqOf m d = some ds) (hn : ∀ z, d ≠ .str z) (h0 : 0 ≤ i) (h : ds[i.toNat]? = some e) : oIx d (.int i) m = .ok e m := by
  have hlt := (List.getElem?_eq_some_iff.mp h).1
  unfold oIx
  split
  · exact absurd rfl (hn _)
  · rename_i a k h2
    rw [hs]
    simp only
    rw [atI_pos h0 (by omega), h]
end
section
variable {x y z v : D} {r : Sto} {i : Int}
end
theorem exitF_1 {d : D} {o : MO} : exitF 1 d [o] = .ok d [o] := rfl
theorem exitF_0 {d : D} : exitF 0 d [] = .ok d [] := rfl
theorem exitK_eq {n : Nat} {d : D} {m : Sto} : exitK n d m = .ok d m := rfl
theorem exitF_bel {n : Nat} {d : D} {m m0 : Sto} (h0 : m.take n = m0) (h1 : m0.all (MO.bel n) = true) (h2 : D.bel n d = true) : exitF n d m = .ok d m0 := by
  unfold exitF
  split
  · rename_i e
    rw [List.take_of_length_le (by omega)] at h0
    rw [h0]
  · subst h0
    rw [if_pos h1]
    unfold frz
    rw [if_pos h2]
theorem log2_lt {i : Int} {k : Nat} (h : i.natAbs < 2 ^ k) (hk : 0 < k) : i.natAbs.log2 < k := by
  by_cases e : i.natAbs = 0
  · rw [e]; simpa using hk
  · exact (Nat.log2_lt e).mpr h
theorem log2_le {i : Int} {k : Nat} (h0 : 0 ≤ i) (h : i < 2 ^ k) (hk : 0 < k) : i.natAbs.log2 < k := by
  refine log2_lt ?_ hk
  have : ((2 ^ k : Nat) : Int) = (2 : Int) ^ k := by simp
  omega
theorem if_f {c P : Prop} [Decidable c] : (if c then P else False) = (c ∧ P) := by
  split
  · rename_i h; exact propext ⟨fun q => ⟨h, q⟩, fun q => q.2⟩
  · rename_i h; exact propext ⟨fun q => q.elim, fun q => absurd q.1 h⟩
section
variable {m : Sto} {ds : List D} {ns : List Int} {bs : List Bool} {i j : Int} {en : Sl} {g : GE} {gs : GA}
theorem bLen_scr : bLen [.scr ns] m = .ok (.int (ns.length : Nat)) m := by
  have : bLen [.scr ns] m = .ok (.int ((ns.map D.int).length : Nat)) m := rfl
  rw [this, List.length_map]
theorem bLen_lst : bLen [.lst ds] m = .ok (.int (ds.length : Nat)) m := rfl
theorem bLen_tup : bLen [.tup ds] m = .ok (.int (ds.length : Nat)) m := rfl
theorem bTuple_lst : bTuple [.lst ds] m = .ok (.tup ds) m := rfl
theorem bTuple_tup : bTuple [.tup ds] m = .ok (.tup ds) m := rfl
theorem bAny_b : bAny [.lst (bs.map .bl)] m = .ok (.bl (bs.any id)) m := by
  unfold bAny lstOf
  simp only [Option.bind_some, blsOf_map]
theorem bAll_b : bAll [.lst (bs.map .bl)] m = .ok (.bl (bs.all id)) m := by
  unfold bAll lstOf
  simp only [Option.bind_some, blsOf_map]
theorem bSortedSet_i : bSortedSet [.lst (ns.map .int)] m = if ns.length + 1 < scanBound then .ok (.lst ((sset ns).map D.int)) m else .bad := by
  unfold bSortedSet lstInts lstOf
  simp only [Option.bind_some, intsOf_map]
theorem bSumS_t : bSumS [.tup (ns.map .int)] m = .ok (.int ns.sum) m := by
  unfold bSumS seqInts seqOf
  simp only [Option.bind_some, intsOf_map]
theorem oEq_ii {neg : Bool} : oEq neg (.int i) (.int j) m = .ok (.bl (if neg then !(i == j) else i == j)) m := by
  unfold oEq viewL
  have h : ∀ k : Int, D.dp 60 (.int k) = true := fun k => by unfold D.dp; rfl
  simp only [h, and_self, if_true]
  have e : PyData.eqv (pd (.int i)) (pd (.int j)) = (i == j) := by unfold pd PyData.eqv; rfl
  rw [e]
def rng (lo : Int) (n : Nat) : List D := (List.range n).map fun i => D.int (lo + (i : Nat))
theorem rng_length (lo : Int) (n : Nat) : (rng lo n).length = n := by simp [rng]
theorem rng_get {lo : Int} {n i : Nat} {d : D} (h : (rng lo n)[i]? = some d) : i < n ∧ d = .int (lo + i) := by
  have hi : i < n := by
    have := (List.getElem?_eq_some_iff.mp h).1
    rw [rng_length] at this; exact this
  unfold rng at h
  rw [List.getElem?_map, List.getElem?_range hi] at h
  cases h
  exact ⟨hi, rfl⟩
theorem iRange1_ok (h : g en m = .ok (.int j) m) (h1 : -(2 ^ 62) ≤ j) (h2 : j < 2 ^ 62) : iRange1 g en m = .ok ⟨rng 0 j.toNat, []⟩ m := by
  unfold iRange1
  rw [h]
  simp only [Out.bind_ok]
  rw [if_pos ⟨h1, h2⟩]
  unfold rng
  simp
theorem iSeq_ok {d : D} {src : Src} (h : g en m = .ok d m) (hs : srcOf m d = some src) : iSeq g en m = .ok src m := by
  unfold iSeq
  rw [h]
  simp only [Out.bind_ok, hs]
end
theorem bels_all (n : Nat) (ds : List D) : D.bels n ds = ds.all (D.bel n) := by
  induction ds with
  | nil => rfl
  | cons d ds ih => unfold D.bels; rw [ih]; rfl
theorem bels_map {α : Type} {n : Nat} {f : α → D} {l : List α} (h : ∀ x ∈ l, D.bel n (f x) = true) : D.bels n (l.map f) = true := by
  rw [bels_all, List.all_eq_true]
  intro d hd
  obtain ⟨x, hx, rfl⟩ := List.mem_map.mp hd
  exact h x hx
theorem allO_bel {m : Sto} {n f : Nat} : ∀ {ds : List D}, D.bels n ds = true → allO (frz m n (f + 1)) ds = some ds
  | [], _ => rfl
  | d :: ds, h => by
    unfold D.bels at h
    simp only [Bool.and_eq_true] at h
    unfold allO
    rw [allO_bel h.2]
    have : frz m n (f + 1) d = some d := by unfold frz; rw [if_pos h.1]
    rw [this]
theorem exitF_ref {n k : Nat} {m m0 : Sto} {ds : List D} (h0 : m.take n = m0) (h1 : m0.all (MO.bel n) = true) (hk : n ≤ k) (hm : m[k]? = some (.lst ds)) (hb : D.bels n ds = true) : exitF n (.ref k) m = .ok (.lst ds) m0 := by
  have hl := (List.getElem?_eq_some_iff.mp hm).1
  unfold exitF
  rw [if_neg (by omega)]
  subst h0
  rw [if_pos h1]
  have hd : ¬ D.bel n (.ref k) = true := by
    unfold D.bel
    simp; omega
  have : frz m n 12 (.ref k) = some (.lst ds) := by
    unfold frz
    rw [if_neg hd]
    simp only [hm]
    rw [allO_bel hb]
    rfl
  rw [this]
theorem oIsN_eq {x : D} {m : Sto} : oIsN x .non m = .ok (.bl (isNonD x)) m := rfl
theorem oNotN_eq {x : D} {m : Sto} : oNotN x .non m = .ok (.bl (!isNonD x)) m := rfl
theorem sat_trim0 {g : GS} {en : Sl} {m : Sto} {N B C : SlP} {R : D → Sto → Prop} (h : (g en m).sat0 (fun en' m' => (m'.take m.length).all (MO.bel m.length) = true ∧ N (en'.map (keepB m.length)) (m'.take m.length)) R B (fun en' m' => (m'.take m.length).all (MO.bel m.length) = true ∧ C (en'.map (keepB m.length)) (m'.take m.length))) : (sTrim g en m).sat0 N R B C := by
  unfold sTrim
  cases e : g en m with
  | nx en' m' =>
    rw [e] at h
    simp only
    rw [if_pos h.1]
    exact h.2
  | ct en' m' =>
    rw [e] at h
    simp only
    rw [if_pos h.1]
    exact h.2
  | bk en' m' => rw [e] at h; exact h
  | rt en' m' => rw [e] at h; exact h
  | ex en' m' => rw [e] at h; exact h
  | bad => rw [e] at h; exact h.elim
structure Out.sat {β : Type} (o : Out β) (P : β → Sto → Prop) : Prop where
  of0 ::
  run0 : o.sat0 P
structure SO.sat (o : SO) (N : SlP) (R : D → Sto → Prop) (B C : SlP) : Prop where
  of0 ::
  run0 : o.sat0 N R B C
theorem satE : @Out.sat0 = @Out.sat := by
  funext β o P
  exact propext ⟨fun h => ⟨h⟩, fun h => h.run0⟩
theorem satS : @SO.sat0 = @SO.sat := by
  funext o N R B C
  exact propext ⟨fun h => ⟨h⟩, fun h => h.run0⟩
theorem Out.sat.mono {β : Type} {o : Out β} {P P' : β → Sto → Prop} (h : o.sat P) (k : ∀ b m, P b m → P' b m) : o.sat P' := ⟨h.run0.mono k⟩
theorem Out.sat.ex {β : Type} {o : Out β} {P : β → Sto → Prop} (h : o.sat P) : ∃ b m, o = .ok b m ∧ P b m := h.run0.ex
section
variable {N B C : SlP} {R : D → Sto → Prop}
theorem SO.sat.mono {o : SO} {N' B' C' : SlP} {R' : D → Sto → Prop} (h : o.sat N R B C) (hN : ∀ en m, N en m → N' en m) (hR : ∀ d m, R d m → R' d m) (hB : ∀ en m, B en m → B' en m) (hC : ∀ en m, C en m → C' en m) : o.sat N' R' B' C' := ⟨h.run0.mono hN hR hB hC⟩

theorem sat_ok {β : Type} {b : β} {m : Sto} {P : β → Sto → Prop} : (Out.ok b m).sat P = P b m := by
  have h0 := @sat_ok0
  first | rw [satE, satS] at h0 | rw [satE] at h0 | rw [satS] at h0
  exact h0 

theorem sat_bad {β : Type} {P : β → Sto → Prop} : (Out.bad : Out β).sat P = False := by
  have h0 := @sat_bad0
  first | rw [satE, satS] at h0 | rw [satE] at h0 | rw [satS] at h0
  exact h0 

theorem sat_bind {β γ : Type} {o : Out β} {f : β → Sto → Out γ} {P : γ → Sto → Prop} : (o.bind f).sat P = o.sat fun b m => (f b m).sat P := by
  have h0 := @sat_bind0
  first | rw [satE, satS] at h0 | rw [satE] at h0 | rw [satS] at h0
  exact h0 

theorem sat_if {β : Type} {c : Prop} [Decidable c] {a b : Out β} {P : β → Sto → Prop} : (if c then a else b).sat P = if c then a.sat P else b.sat P := by
  have h0 := @sat_if0
  first | rw [satE, satS] at h0 | rw [satE] at h0 | rw [satS] at h0
  exact h0 

theorem sat_nox {β : Type} {o : Out β} {P : β → Sto → Prop} : o.nox.sat P = o.sat P := by
  have h0 := @sat_nox0
  first | rw [satE, satS] at h0 | rw [satE] at h0 | rw [satS] at h0
  exact h0 

theorem sat_of {β : Type} {o : Out β} {P : β → Sto → Prop} {b : β} {m : Sto} (e : o = .ok b m) (h : P b m) : o.sat P := by
  have h0 := @sat_of0
  first | rw [satE, satS] at h0 | rw [satE] at h0 | rw [satS] at h0
  exact h0 e h

theorem sat_nx {en : Sl} {m : Sto} : (SO.nx en m).sat N R B C = N en m := by
  have h0 := @sat_nx0
  first | rw [satE, satS] at h0 | rw [satE] at h0 | rw [satS] at h0
  exact h0 

theorem sat_rt {d : D} {m : Sto} : (SO.rt d m).sat N R B C = R d m := by
  have h0 := @sat_rt0
  first | rw [satE, satS] at h0 | rw [satE] at h0 | rw [satS] at h0
  exact h0 

theorem sat_bk {en : Sl} {m : Sto} : (SO.bk en m).sat N R B C = B en m := by
  have h0 := @sat_bk0
  first | rw [satE, satS] at h0 | rw [satE] at h0 | rw [satS] at h0
  exact h0 

theorem sat_ct {en : Sl} {m : Sto} : (SO.ct en m).sat N R B C = C en m := by
  have h0 := @sat_ct0
  first | rw [satE, satS] at h0 | rw [satE] at h0 | rw [satS] at h0
  exact h0 

theorem sat_sbad : SO.bad.sat N R B C = False := by
  have h0 := @sat_sbad0
  first | rw [satE, satS] at h0 | rw [satE] at h0 | rw [satS] at h0
  exact h0 

theorem sat_sif {c : Prop} [Decidable c] {a b : SO} : (if c then a else b).sat N R B C = if c then a.sat N R B C else b.sat N R B C := by
  have h0 := @sat_sif0
  first | rw [satE, satS] at h0 | rw [satE] at h0 | rw [satS] at h0
  exact h0 

theorem sat_ofOut {β : Type} {o : Out β} {f : β → Sto → SO} : (SO.ofOut o f).sat N R B C = o.sat fun b m => (f b m).sat N R B C := by
  have h0 := @sat_ofOut0
  first | rw [satE, satS] at h0 | rw [satE] at h0 | rw [satS] at h0
  exact h0 

theorem sat_then {o : SO} {f : Sl → Sto → SO} : (o.then f).sat N R B C = o.sat (fun en m => (f en m).sat N R B C) R B C := by
  have h0 := @sat_then0
  first | rw [satE, satS] at h0 | rw [satE] at h0 | rw [satS] at h0
  exact h0 

end

theorem runF_sat {ext : Nat → D → Sto → Out D} {n : Nat} {g : GS} {ds : List D} {m : Sto} {P : D → Sto → Prop} : (runF ext n g ds m).sat P = (g (startE n ds) m).sat (fun _ m' => (ext m.length .non m').sat P) (fun d m' => (ext m.length d m').sat P) (fun _ _ => False) (fun _ _ => False) := by
  have h0 := @runF_sat0
  first | rw [satE, satS] at h0 | rw [satE] at h0 | rw [satS] at h0
  exact h0 

theorem for_sat {gi : GI} {t : GT} {b : GS} {en : Sl} {m : Sto} {N B C : SlP} {R : D → Sto → Prop} (I : Src → Nat → SlP)
    (hi : (gi en m).sat fun src m1 => (∀ i en m, I src i en m → src.ok m = true) ∧ I src 0 en m1 ∧ (∀ i d en m, src.items[i]? = some d → I src i en m → (t d en m).sat fun en1 m1 => (b en1 m1).sat (I src (i + 1)) R N (I src (i + 1))) ∧ ∀ en m, I src src.items.length en m → N en m) :
    (sFor gi t b en m).sat N R B C := by
  have h0 := @for_sat0
  first | rw [satE, satS] at h0 | rw [satE] at h0 | rw [satS] at h0
  exact h0 I hi

theorem while_sat {c : GB} {b : GS} {N B C : SlP} {R : D → Sto → Prop} (I : Nat → SlP)
    (step : ∀ k en m, I k en m → (c en m).sat fun kk m1 => if kk = true then (b en m1).sat (fun en2 m2 => ∃ k', k' < k ∧ I k' en2 m2) R N (fun en2 m2 => ∃ k', k' < k ∧ I k' en2 m2) else N en m1) {k : Nat} {en : Sl} {m : Sto} (h : I k en m) : (sWhile c b en m).sat N R B C := by
  have h0 := @while_sat0
  first | rw [satE, satS] at h0 | rw [satE] at h0 | rw [satS] at h0
  exact h0 I step h

theorem lc_sat {gi : GI} {t : GT} {c : GB} {g : GE} {vs : List Nat} {en : Sl} {m : Sto} {P : D → Sto → Prop} (I : Src → Nat → List D → Sto → Prop)
    (hi : (gi en m).sat fun src m1 => (∀ i acc m, I src i acc m → src.ok m = true) ∧ I src 0 [] m1 ∧ (∀ i d acc m, src.items[i]? = some d → I src i acc m → (t d (wipeE en vs) m).sat fun en1 m1 => (c en1 m1).sat fun k m2 => if k = true then (g en1 m2).sat fun y m3 => acc.length < sizeLine ∧ I src (i + 1) (acc ++ [y]) m3 else I src (i + 1) acc m2) ∧
      ∀ acc m, I src src.items.length acc m → P (.lst acc) m) : (gLc gi t c g vs en m).sat P := by
  have h0 := @lc_sat0
  first | rw [satE, satS] at h0 | rw [satE] at h0 | rw [satS] at h0
  exact h0 I hi

theorem sat_guard {β : Type} {c : Prop} [Decidable c] {b : β} {m : Sto} {P : β → Sto → Prop} : (if c then Out.ok b m else .bad).sat P = (c ∧ P b m) := by
  have h0 := @sat_guard0
  first | rw [satE, satS] at h0 | rw [satE] at h0 | rw [satS] at h0
  exact h0 

theorem sat_trim {g : GS} {en : Sl} {m : Sto} {N B C : SlP} {R : D → Sto → Prop} (h : (g en m).sat (fun en' m' => (m'.take m.length).all (MO.bel m.length) = true ∧ N (en'.map (keepB m.length)) (m'.take m.length)) R B (fun en' m' => (m'.take m.length).all (MO.bel m.length) = true ∧ C (en'.map (keepB m.length)) (m'.take m.length))) : (sTrim g en m).sat N R B C := by
  have h0 := @sat_trim0
  first | rw [satE, satS] at h0 | rw [satE] at h0 | rw [satS] at h0
  exact h0 h
end L3
namespace L3
open PySem PySem.Spec L2
open PyProof.Rows hiding St
theorem iRange1_sat {g : GE} {en : Sl} {m : Sto} {P : Src → Sto → Prop} (h : (g en m).sat fun d m1 => ∃ j, d = .int j ∧ -(2 ^ 62) ≤ j ∧ j < 2 ^ 62 ∧ P ⟨rng 0 j.toNat, []⟩ m1) : (iRange1 g en m).sat P := by
  obtain ⟨d, m1, e, j, rfl, h1, h2, hP⟩ := h.ex
  refine sat_of (b := ⟨rng 0 j.toNat, []⟩) (m := m1) ?_ hP
  unfold iRange1
  rw [e]
  simp only [Out.bind_ok]
  rw [if_pos ⟨h1, h2⟩]
  unfold rng
  simp
mutual
theorem eqv_pd : ∀ d : D, PyData.eqv (pd d) (pd d) = true
  | .non => by unfold pd PyData.eqv; rfl
  | .bl b => by unfold pd PyData.eqv; simp
  | .int b => by unfold pd PyData.eqv; simp
  | .str b => by unfold pd PyData.eqv; simp
  | .tup ds => by unfold pd PyData.eqv; exact eqv_pds ds
  | .lst ds => by unfold pd PyData.eqv; exact eqv_pds ds
  | .scr ns => by
    unfold pd PyData.eqv
    induction ns with
    | nil => unfold List.map PyData.eqvAll; rfl
    | cons n ns ih => rw [List.map_cons]; unfold PyData.eqvAll PyData.eqv; rw [ih]; simp
  | .ty n => by unfold pd PyData.eqv; rfl
  | .cls n => by unfold pd PyData.eqv; rfl
  | .dK ks ds => by unfold pd PyData.eqv; rfl
  | .dT ks ds => by unfold pd PyData.eqv; rfl
  | .ins c ns ds => by unfold pd PyData.eqv; rfl
  | .exc c ns ds => by unfold pd PyData.eqv; rfl
  | .ref k => by unfold pd PyData.eqv; rfl
theorem eqv_pds : ∀ ds : List D, PyData.eqvAll (pds ds) (pds ds) = true
  | [] => by unfold pds PyData.eqvAll; rfl
  | d :: ds => by unfold pds PyData.eqvAll; rw [eqv_pd d, eqv_pds ds]; rfl
end
end L3
namespace L3
open PySem PySem.Spec L2
open PyProof.Rows hiding St
section
variable {m : Sto} {ns : List Int} {nss : List (List Int)}
theorem lstInts_l : lstInts m (.lst (ns.map .int)) = some ns := by
  unfold lstInts lstOf
  simp only [Option.bind_some, intsOf_map]
theorem bSortedSetX_i : bSortedSetX [.lst (ns.map .int)] m = if ns.length + 1 < scanBound then .ok (.lst ((sset ns).map D.int)) m else .bad := by
  unfold bSortedSetX
  simp only [lstInts_l]
end
end L3
namespace Wk
open PySem PySem.Spec L2 L3
open PyProof.Rows hiding St
structure Txt (K : PySem.W.Frag) (mg : Str → Option Value) : Prop where
  cc_Pool_MOST_THREADS : ConI K mg "Pool" "MOST_THREADS" 200
  k_Pool : Cls K (He.ga K "Pool")
  k_Trial : Cls K (He.ga K "Trial")
  f_KeyError : mg "KeyError" = none
  f_abs : mg "abs" = none
  f_all : mg "all" = none
  f_bool : mg "bool" = none
  f_int : mg "int" = none
  f_isinstance : mg "isinstance" = none
  f_len : mg "len" = none
  f_list : mg "list" = none
  f_max : mg "max" = none
  f_min : mg "min" = none
  f_range : mg "range" = none
  f_repr : mg "repr" = none
  f_sum : mg "sum" = none
  f_tuple : mg "tuple" = none
  g_BadPlan : mg "BadPlan" = some (.ref (He.ga K "BadPlan"))
  g_BadSize : mg "BadSize" = some (.ref (He.ga K "BadSize"))
  g_NoThread : mg "NoThread" = some (.ref (He.ga K "NoThread"))
  g_NothingToUndo : mg "NothingToUndo" = some (.ref (He.ga K "NothingToUndo"))
  g_PermitError : mg "PermitError" = some (.ref (He.ga K "PermitError"))
  g_Pool : mg "Pool" = some (.ref (He.ga K "Pool"))
  g_TooMany : mg "TooMany" = some (.ref (He.ga K "TooMany"))
  g_Unsafe : mg "Unsafe" = some (.ref (He.ga K "Unsafe"))
  g_Waiting : mg "Waiting" = some (.ref (He.ga K "Waiting"))
  c_MOST_SIZE : ∃ t, mg "MOST_SIZE" = some (.int 1000000000000000000000000000000 t)
  c_MOST_TAKES : ∃ t, mg "MOST_TAKES" = some (.int 6 t)
  c_MOST_TOTAL : ∃ t, mg "MOST_TOTAL" = some (.int 120 t)
  n_Pool_is_careful : NoAttr K (He.ga K "Pool") "is_careful"
  n_Pool_past : NoAttr K (He.ga K "Pool") "past"
  n_Pool_present : NoAttr K (He.ga K "Pool") "present"
  n_Pool_whole : NoAttr K (He.ga K "Pool") "whole"
  n_Trial_past : NoAttr K (He.ga K "Trial") "past"
  n_Trial_pool : NoAttr K (He.ga K "Trial") "pool"
  n_Trial_present : NoAttr K (He.ga K "Trial") "present"
  err2 : He.errB2 errC0 errV K = true
  noke : NoKE K keE
  err : He.errB "PermitError" errC errK K = true
abbrev tq0 : Str × Str × Option Str := (("_law_trial_right.<locals>.<lambda>" : Str), (("_law_trial_right" : Str), (none : Option Str)))
abbrev tq1 : Str × Str × Option Str := (("_law_right.<locals>.<lambda>" : Str), (("_law_right" : Str), (none : Option Str)))
abbrev tfs : List (Str × Str × Option Str) := [tq0, tq1]
section
variable {P : Program} {w : World} {K : PySem.W.Frag} {mg : Str → Option Value} {base : Heap} {f : Addr}
abbrev N_Lstart : List Str := ["_law_script", "_law_k", "_law_cell", "_law_large"]
theorem sc_Lstart : FnScope N_Lstart ["_law_script", "_law_k"] (defScope s_Lstart) := ⟨rfl, rfl, rfl, by decide +kernel, rfl, by decide +kernel, by decide +kernel⟩
noncomputable def g_Lstart : GS := (sSeq (sAsg (gIf (gAs (gBin oLt (gVar 1) (gB bLen (aCons (gVar 0) aNil)))) (gBin oIx (gVar 0) (gVar 1)) (gBin oAdd (gBin oMul (gC (.int 19)) (gVar 1)) (gC (.int 2)))) (nName 2))
  (sSeq (sAsg (gBin oMul (gBin oMod (gB bAbs (aCons (gVar 2) aNil)) (gBin oPow3 (gBin oPow3 (gC (.int 10)) (gC (.int 60))) (gC (.int 5)))) (gB bInt (aCons (gBin oGe (gB bAbs (aCons (gVar 2) aNil)) (gBin oPow3 (gC (.int 10)) (gC (.int 18)))) aNil))) (nName 3))
  (sRet (gLstM (aCons (gVar 3) (aCons (gBin oMod (gBin oMul (gBin oAdd (gBin oAdd (gBin oMod (gVar 2) (gC (.int 2305843009213693951))) (gBin oMul (gBin oMul (gC (.int 15485917)) (gVar 1)) (gVar 1))) (gC (.int 61))) (gC (.int 16807))) (gC (.int 2305843009213693907))) (aCons (gC (.int 0)) aNil)))))))
noncomputable def m_Lstart : FM := runF exitK 4 g_Lstart
theorem w_Lstart (T : Txt K mg)  : Walks2 (L2.CX P w) P w K mg base 0 N_Lstart "_law_start" (defScope s_Lstart) f (defBody s_Lstart) g_Lstart := by
  intro cdv A outer s H E hr
  have nd := sc_Lstart.nd
  have hu1 := hu_of hr
  have hu0 := hr.units0
  exact (dss_cons (ds_set 2 nd (de_ifExp (db_cmp (or_lt hu0) op2_lt (de_var 1) (de_b call_len on_len rfl T.f_len bt_len (da_cons (de_var 0) da_nil)) (nomark _)) (de_ix hu1 (de_var 0) (de_var 1)) (de_add (de_mul de_int (de_var 1)) de_int)))
  (dss_cons (ds_set 3 nd (de_mul (de_mod (de_b call_abs on_abs rfl T.f_abs bt_abs (da_cons (de_var 2) da_nil)) (de_op or_pow op2_pow3 (de_op or_pow op2_pow3 de_int de_int) de_int)) (de_bT call_int1 on_int rfl T.f_int bt_int (da_cons (de_cmp op_ge op2_I (de_b call_abs on_abs rfl T.f_abs bt_abs (da_cons (de_var 2) da_nil)) (de_op or_pow op2_pow3 de_int de_int) (nomark _)) da_nil))))
  (dss_one (ds_ret (de_lstM (da_cons (de_var 3) (da_cons (de_mod (de_mul (de_add (de_add (de_mod (de_var 2) de_int) (de_mul (de_mul de_int (de_var 1)) (de_var 1))) de_int) de_int) de_int) (da_cons de_int da_nil))))))))
abbrev N_Trial_enter : List Str := ["self"]
theorem sc_Trial_enter : FnScope N_Trial_enter ["self"] (defScope s_Trial_enter) := ⟨rfl, rfl, rfl, by decide +kernel, rfl, by decide +kernel, by decide +kernel⟩
noncomputable def g_Trial_enter : GS := (sSeq (sAsg (gFld "Pool" "present" (gFld "Trial" "pool" (gVar 0))) (nFld "Trial" "present" (gVar 0)))
  (sSeq (sAsg (gB bListM (aCons (gFld "Pool" "past" (gFld "Trial" "pool" (gVar 0))) aNil)) (nFld "Trial" "past" (gVar 0)))
  (sRet (gFld "Trial" "pool" (gVar 0)))))
noncomputable def m_Trial_enter : FM := runF exitK 1 g_Trial_enter
theorem w_Trial_enter (T : Txt K mg)  : Walks2 (L2.CX P w) P w K mg base 0 N_Trial_enter "Trial.__enter__" (defScope s_Trial_enter) f (defBody s_Trial_enter) g_Trial_enter := by
  intro cdv A outer s H E hr
  have nd := sc_Trial_enter.nd
  exact (dss_cons (ds_asg (de_fld "Pool" (de_fld "Trial" (de_var 0) T.k_Trial T.n_Trial_pool) T.k_Pool T.n_Pool_present) (dg_fld "Trial" (de_var 0) T.k_Trial T.n_Trial_present))
  (dss_cons (ds_asg (de_bT call_list_of on_listM rfl T.f_list bt_list (da_cons (de_fld "Pool" (de_fld "Trial" (de_var 0) T.k_Trial T.n_Trial_pool) T.k_Pool T.n_Pool_past) da_nil)) (dg_fld "Trial" (de_var 0) T.k_Trial T.n_Trial_past))
  (dss_one (ds_ret (de_fld "Trial" (de_var 0) T.k_Trial T.n_Trial_pool)))))
abbrev N_Trial_init : List Str := ["self", "pool"]
theorem sc_Trial_init : FnScope N_Trial_init ["self", "pool"] (defScope s_Trial_init) := ⟨rfl, rfl, rfl, by decide +kernel, rfl, by decide +kernel, by decide +kernel⟩
noncomputable def g_Trial_init : GS := (sSeq (sAsg (gVar 1) (nFld "Trial" "pool" (gVar 0)))
  (sSeq (sAsg (gFld "Pool" "present" (gVar 1)) (nFld "Trial" "present" (gVar 0)))
  (sAsg (gB bListM (aCons (gFld "Pool" "past" (gVar 1)) aNil)) (nFld "Trial" "past" (gVar 0)))))
noncomputable def m_Trial_init : FM := runF exitK 2 g_Trial_init
theorem w_Trial_init (T : Txt K mg)  : Walks2 (L2.CX P w) P w K mg base 0 N_Trial_init "Trial.__init__" (defScope s_Trial_init) f (defBody s_Trial_init) g_Trial_init := by
  intro cdv A outer s H E hr
  have nd := sc_Trial_init.nd
  exact (dss_cons (ds_asg (de_var 1) (dg_fld "Trial" (de_var 0) T.k_Trial T.n_Trial_pool))
  (dss_cons (ds_asg (de_fld "Pool" (de_var 1) T.k_Pool T.n_Pool_present) (dg_fld "Trial" (de_var 0) T.k_Trial T.n_Trial_present))
  (dss_one (ds_asg (de_bT call_list_of on_listM rfl T.f_list bt_list (da_cons (de_fld "Pool" (de_var 1) T.k_Pool T.n_Pool_past) da_nil)) (dg_fld "Trial" (de_var 0) T.k_Trial T.n_Trial_past)))))
abbrev N_Trial_exit : List Str := ["self", "kind", "value", "trace"]
theorem sc_Trial_exit : FnScope N_Trial_exit ["self", "kind", "value", "trace"] (defScope s_Trial_exit) := ⟨rfl, rfl, rfl, by decide +kernel, rfl, by decide +kernel, by decide +kernel⟩
noncomputable def g_Trial_exit : GS := (sSeq (sAsg (gFld "Trial" "present" (gVar 0)) (nFld "Pool" "present" (gFld "Trial" "pool" (gVar 0))))
  (sAsg (gFld "Trial" "past" (gVar 0)) (nFld "Pool" "past" (gFld "Trial" "pool" (gVar 0)))))
noncomputable def m_Trial_exit : FM := runF exitK 4 g_Trial_exit
theorem wm_Trial_exit (T : Txt K mg)  : WalksM (L2.CX P w) P w K mg base 0 N_Trial_exit "Trial.__exit__" (defScope s_Trial_exit) f (defBody s_Trial_exit) g_Trial_exit := by
  intro cdv A outer s H E p hr
  have nd := sc_Trial_exit.nd
  exact (dss_cons (ds_asg (de_fld "Trial" (de_var 0) T.k_Trial T.n_Trial_present) (dg_fld "Pool" (de_fld "Trial" (de_var 0) T.k_Trial T.n_Trial_pool) T.k_Pool T.n_Pool_present))
  (dss_one (ds_asg (de_fld "Trial" (de_var 0) T.k_Trial T.n_Trial_past) (dg_fld "Pool" (de_fld "Trial" (de_var 0) T.k_Trial T.n_Trial_pool) T.k_Pool T.n_Pool_past))))
theorem w_Trial_exit (T : Txt K mg)  : Walks2 (L2.CX P w) P w K mg base 0 N_Trial_exit "Trial.__exit__" (defScope s_Trial_exit) f (defBody s_Trial_exit) g_Trial_exit := by
  intro cdv A outer s H E hr
  have nd := sc_Trial_exit.nd
  exact (dss_cons (ds_asg (de_fld "Trial" (de_var 0) T.k_Trial T.n_Trial_present) (dg_fld "Pool" (de_fld "Trial" (de_var 0) T.k_Trial T.n_Trial_pool) T.k_Pool T.n_Pool_present))
  (dss_one (ds_asg (de_fld "Trial" (de_var 0) T.k_Trial T.n_Trial_past) (dg_fld "Pool" (de_fld "Trial" (de_var 0) T.k_Trial T.n_Trial_pool) T.k_Pool T.n_Pool_past))))
abbrev N_rehearsed : List Str := ["pool", "action", "result", "held"]
theorem sc_rehearsed : FnScope N_rehearsed ["pool", "action"] (defScope s_rehearsed) := ⟨rfl, rfl, rfl, by decide +kernel, rfl, by decide +kernel, by decide +kernel⟩
noncomputable def m_rehearsed : (D → Sto → Out D) → D → Sto → Out D := rehM "Trial" m_Trial_enter m_Trial_exit (gMakeM "Trial" 2 m_Trial_init (aCons (gVar 0) aNil))
theorem w_rehearsed (T : Txt K mg) (I_Trial : CalI P w K mg base (L2.CX P w) 1 "Trial" 2 m_Trial_init) (C_Trial_enter : CalM P w K mg base (L2.CX P w) 1 "Trial" "__enter__" 1 m_Trial_enter) (CW_Trial_exit : CalW P w K mg base (L2.CX P w) 1 "Trial" "__exit__" m_Trial_exit) (cdv : Value) (X : Cx) (q : Str) (E : XK) (e1 : X.prog = P) (e2 : X.w = w) (e3 : X.K = K) (e4 : X.mg = mg) (e5 : X.base = base) : LamX.GivesTo1 X 2 N_rehearsed "rehearsed" (defScope s_rehearsed) f cdv (defBody s_rehearsed) "action" q E (TTR K m_rehearsed E) := by
  subst e1 e2 e3 e4 e5
  exact reh_gives (X := X) (Ng := N_rehearsed) (x := "rehearsed") (a := "action") (q := q) (sg := defScope s_rehearsed) (g := f) (cdg := cdv) (k := 2) (E := E) sc_rehearsed.nd rfl rfl rfl rfl rfl (by decide) (by decide) (by decide) (by decide) (fun s H hr => (de_makeM I_Trial (hr.mono (by decide)) pxE0 rfl (da_cons (de_var 0) da_nil))) C_Trial_enter CW_Trial_exit (by decide) (by decide) (fun _ => pxE0) (fun _ => pxE0) (fun _ _ => rfl) (fun _ _ => rfl)
abbrev N_Ldraw : List Str := ["_law_source", "_law_limit", "_law_digit", "_law_prime", "_law_mixed"]
theorem sc_Ldraw : FnScope N_Ldraw ["_law_source", "_law_limit"] (defScope s_Ldraw) := ⟨rfl, rfl, rfl, by decide +kernel, rfl, by decide +kernel, by decide +kernel⟩
noncomputable def g_Ldraw : GS := (sSeq (sIf (gAs (gBin oGt (gBin oIx (gVar 0) (gC (.int 0))) (gC (.int 0))))
  (sSeq (sAsg (gBin oMod (gBin oIx (gVar 0) (gC (.int 0))) (gVar 1)) (nName 2))
  (sSeq (sAsg (gBin oDiv (gBin oIx (gVar 0) (gC (.int 0))) (gVar 1)) (nSub (gVar 0) (gC (.int 0))))
  (sRet (gVar 2))))
  sNext)
  (sSeq (sAsg (gBin oAdd (gBin oIx (gVar 0) (gC (.int 2))) (gC (.int 1))) (nSub (gVar 0) (gC (.int 2))))
  (sSeq (sAsg (gBin oIx (gLst (aCons (gC (.int 2147483647)) (aCons (gC (.int 2147483629)) (aCons (gC (.int 2147483587)) (aCons (gC (.int 2147483579)) (aCons (gC (.int 2147483563)) (aCons (gC (.int 2147483549)) (aCons (gC (.int 2147483543)) aNil)))))))) (gBin oMod (gBin oIx (gVar 0) (gC (.int 2))) (gC (.int 7)))) (nName 3))
  (sSeq (sAsg (gBin oMod (gBin oPow3 (gBin oAdd (gBin oAdd (gBin oIx (gVar 0) (gC (.int 1))) (gBin oMul (gBin oMul (gC (.int 6700417)) (gBin oIx (gVar 0) (gC (.int 2)))) (gBin oIx (gVar 0) (gC (.int 2))))) (gC (.int 29))) (gC (.int 3))) (gVar 3)) (nName 4))
  (sRet (gBin oMod (gBin oDiv (gBin oMod (gBin oMul (gVar 4) (gBin oAdd (gBin oMod (gVar 4) (gC (.int 10007))) (gBin oMul (gC (.int 101)) (gBin oIx (gVar 0) (gC (.int 2)))))) (gC (.int 2305843009213693921))) (gC (.int 101))) (gVar 1)))))))
noncomputable def m_Ldraw : FM := runF exitF 5 g_Ldraw
theorem w_Ldraw (T : Txt K mg)  : Walks2 (L2.CX P w) P w K mg base 0 N_Ldraw "_law_draw" (defScope s_Ldraw) f (defBody s_Ldraw) g_Ldraw := by
  intro cdv A outer s H E hr
  have nd := sc_Ldraw.nd
  have hu1 := hu_of hr
  exact (dss_cons (ds_if (db_cmp op_gt op2_I (de_ix hu1 (de_var 0) de_int) de_int (nomark _))
  (dss_cons (ds_set 2 nd (de_mod (de_ix hu1 (de_var 0) de_int) (de_var 1)))
  (dss_cons (ds_asg (de_div (de_ix hu1 (de_var 0) de_int) (de_var 1)) (dg_sub hu1 (de_var 0) de_int))
  (dss_one (ds_ret (de_var 2)))))
  dss_nil)
  (dss_cons (ds_asg (de_add (de_ix hu1 (de_var 0) de_int) de_int) (dg_sub hu1 (de_var 0) de_int))
  (dss_cons (ds_set 3 nd (de_ix hu1 (de_lst (da_cons de_int (da_cons de_int (da_cons de_int (da_cons de_int (da_cons de_int (da_cons de_int (da_cons de_int da_nil)))))))) (de_mod (de_ix hu1 (de_var 0) de_int) de_int)))
  (dss_cons (ds_set 4 nd (de_mod (de_op or_pow op2_pow3 (de_add (de_add (de_ix hu1 (de_var 0) de_int) (de_mul (de_mul de_int (de_ix hu1 (de_var 0) de_int)) (de_ix hu1 (de_var 0) de_int))) de_int) de_int) (de_var 3)))
  (dss_one (ds_ret (de_mod (de_div (de_mod (de_mul (de_var 4) (de_add (de_mod (de_var 4) de_int) (de_mul de_int (de_ix hu1 (de_var 0) de_int)))) de_int) de_int) (de_var 1))))))))
abbrev N_Lchoice : List Str := ["_law_source", "_law_items"]
theorem sc_Lchoice : FnScope N_Lchoice ["_law_source", "_law_items"] (defScope s_Lchoice) := ⟨rfl, rfl, rfl, by decide +kernel, rfl, by decide +kernel, by decide +kernel⟩
noncomputable def g_Lchoice : GS := (sRet (gBin oIx (gVar 1) (gCall 2 m_Ldraw (aCons (gVar 0) (aCons (gB bLen (aCons (gVar 1) aNil)) aNil)))))
noncomputable def m_Lchoice : FM := runF exitF 2 g_Lchoice
theorem w_Lchoice (T : Txt K mg) (C_Ldraw : Cal P w K mg base (L2.CX P w) 1 "_law_draw" 2 m_Ldraw) : Walks2 (L2.CX P w) P w K mg base 1 N_Lchoice "_law_choice" (defScope s_Lchoice) f (defBody s_Lchoice) g_Lchoice := by
  intro cdv A outer s H E hr
  have nd := sc_Lchoice.nd
  have hu1 := hu_of hr
  exact (dss_one (ds_ret (de_ix hu1 (de_var 1) (de_call C_Ldraw (hr.mono (by decide)) (by first | exact pxE0 | exact passes_call (takes_of rfl rfl rfl rfl) fun _ _ _ _ h => h) rfl (da_cons (de_var 0) (da_cons (de_b call_len on_len rfl T.f_len bt_len (da_cons (de_var 1) da_nil)) da_nil))))))
abbrev N_Lplan : List Str := ["_law_source", "_law_most", "_law_takes", "_law_turn", "_law_small"]
theorem sc_Lplan : FnScope N_Lplan ["_law_source", "_law_most"] (defScope s_Lplan) := ⟨rfl, rfl, rfl, by decide +kernel, rfl, by decide +kernel, by decide +kernel⟩
noncomputable def g_Lplan : GS := (sSeq (sAsg (gLstM (aCons (gBin oAdd (gC (.int 1)) (gCall 2 m_Ldraw (aCons (gVar 0) (aCons (gVar 1) aNil)))) aNil)) (nName 2))
  (sSeq (sFor (iRange1 (gCall 2 m_Lchoice (aCons (gVar 0) (aCons (gLst (aCons (gC (.int 0)) (aCons (gC (.int 1)) (aCons (gC (.int 1)) (aCons (gC (.int 2)) (aCons (gC (.int 2)) (aCons (gC (.int 3)) (aCons (gC (.int 5)) aNil)))))))) aNil)))) (nName 3)
  (sSeq (sAsg (gBin oGt (gCall 2 m_Ldraw (aCons (gVar 0) (aCons (gC (.int 4)) aNil))) (gC (.int 0))) (nName 4))
  (sExpr (gBM "list" mAppend (gVar 2) (aCons (gBin oAdd (gC (.int 1)) (gCall 2 m_Ldraw (aCons (gVar 0) (aCons (gIf (gTru (gVar 4)) (gB bMax2 (aCons (gC (.int 1)) (aCons (gB bMin2 (aCons (gC (.int 19)) (aCons (gBin oSub (gB bSumS (aCons (gVar 2) aNil)) (gC (.int 1))) aNil))) aNil))) (gC (.int 20))) aNil)))) aNil)))))
  (sRet (gB bTuple (aCons (gVar 2) aNil)))))
noncomputable def m_Lplan : FM := runF exitF 5 g_Lplan
theorem w_Lplan (T : Txt K mg) (C_Ldraw : Cal P w K mg base (L2.CX P w) 1 "_law_draw" 2 m_Ldraw) (C_Lchoice : Cal P w K mg base (L2.CX P w) 2 "_law_choice" 2 m_Lchoice) : Walks2 (L2.CX P w) P w K mg base 2 N_Lplan "_law_plan" (defScope s_Lplan) f (defBody s_Lplan) g_Lplan := by
  intro cdv A outer s H E hr
  have nd := sc_Lplan.nd
  have po : PassesOwn (model P w) _ _ (cxOf (L2.CX P w) P w K mg base N_Lplan "_law_plan" (defScope s_Lplan) f cdv A outer s H E).xe := passes_of rfl
  exact (dss_cons (ds_set 2 nd (de_lstM (da_cons (de_add de_int (de_call C_Ldraw (hr.mono (by decide)) (by first | exact pxE0 | exact passes_call (takes_of rfl rfl rfl rfl) fun _ _ _ _ h => h) rfl (da_cons (de_var 0) (da_cons (de_var 1) da_nil)))) da_nil)))
  (dss_cons (ds_for po rfl (di_range1 rfl T.f_range (de_call C_Lchoice (hr.mono (by decide)) (by first | exact pxE0 | exact passes_call (takes_of rfl rfl rfl rfl) fun _ _ _ _ h => h) rfl (da_cons (de_var 0) (da_cons (de_lst (da_cons de_int (da_cons de_int (da_cons de_int (da_cons de_int (da_cons de_int (da_cons de_int (da_cons de_int da_nil)))))))) da_nil)))) (dg_name 3 nd)
  (dss_cons (ds_set 4 nd (de_cmp op_gt op2_I (de_call C_Ldraw (hr.mono (by decide)) (by first | exact pxE0 | exact passes_call (takes_of rfl rfl rfl rfl) fun _ _ _ _ h => h) rfl (da_cons (de_var 0) (da_cons de_int da_nil))) de_int (nomark _)))
  (dss_one (ds_expr (de_bm PySem.F.plainAttrs_list PySem.F.slot_list_append PySem.F.type_list_append mt_append om_append (de_var 2) (da_cons (de_add de_int (de_call C_Ldraw (hr.mono (by decide)) (by first | exact pxE0 | exact passes_call (takes_of rfl rfl rfl rfl) fun _ _ _ _ h => h) rfl (da_cons (de_var 0) (da_cons (de_ifExp (db_tru (de_var 4)) (de_b (call_max2 rfl) on_max2 rfl T.f_max bt_max (da_cons de_int (da_cons (de_b (call_min2 rfl) on_min2 rfl T.f_min bt_min (da_cons de_int (da_cons (de_sub (de_b (cr_sumS rfl) on_sumS rfl T.f_sum bt_sum (da_cons (de_var 2) da_nil)) de_int) da_nil))) da_nil))) de_int) da_nil)))) da_nil))))))
  (dss_one (ds_ret (de_bT call_tuple_of on_tuple rfl T.f_tuple bt_tuple (da_cons (de_var 2) da_nil))))))
abbrev N_is_integer : List Str := ["value"]
theorem sc_is_integer : FnScope N_is_integer ["value"] (defScope s_is_integer) := ⟨rfl, rfl, rfl, by decide +kernel, rfl, by decide +kernel, by decide +kernel⟩
noncomputable def g_is_integer : GS := (sRet (gAnd (gB bIsiX (aCons (gVar 0) (aCons (gC (.ty "int")) aNil))) (gNot (gB bIsiX (aCons (gVar 0) (aCons (gC (.ty "bool")) aNil))))))
noncomputable def m_is_integer : FM := runF exitF 1 g_is_integer
theorem w_is_integer (T : Txt K mg)  : Walks2 (L2.CX P w) P w K mg base 0 N_is_integer "is_integer" (defScope s_is_integer) f (defBody s_is_integer) g_is_integer := by
  intro cdv A outer s H E hr
  have nd := sc_is_integer.nd
  exact (dss_one (ds_ret (de_and (de_b call_isi on_isiX rfl T.f_isinstance bt_isinstance (da_cons (de_var 0) (da_cons (de_type rfl T.f_int bt_int) da_nil))) (de_one (de_not (de_b call_isi on_isiX rfl T.f_isinstance bt_isinstance (da_cons (de_var 0) (da_cons (de_type rfl T.f_bool bt_bool) da_nil))))))))
abbrev N_is_between : List Str := ["value", "low", "high"]
theorem sc_is_between : FnScope N_is_between ["value", "low", "high"] (defScope s_is_between) := ⟨rfl, rfl, rfl, by decide +kernel, rfl, by decide +kernel, by decide +kernel⟩
noncomputable def g_is_between : GS := (sRet (gAnd (gCall 1 m_is_integer (aCons (gVar 0) aNil)) (gChain oLe oLe (gVar 1) (gVar 0) (gVar 2))))
noncomputable def m_is_between : FM := runF exitF 3 g_is_between
theorem w_is_between (T : Txt K mg) (C_is_integer : Cal P w K mg base (L2.CX P w) 1 "is_integer" 1 m_is_integer) : Walks2 (L2.CX P w) P w K mg base 1 N_is_between "is_between" (defScope s_is_between) f (defBody s_is_between) g_is_between := by
  intro cdv A outer s H E hr
  have nd := sc_is_between.nd
  exact (dss_one (ds_ret (de_and (de_call C_is_integer (hr.mono (by decide)) (by first | exact pxE0 | exact passes_call (takes_of rfl rfl rfl rfl) fun _ _ _ _ h => h) rfl (da_cons (de_var 0) da_nil)) (de_one (de_chain op_le op_le op2_I op2_I (de_var 1) (de_var 0) (de_var 2))))))
abbrev N_is_plan : List Str := ["value", "take"]
theorem sc_is_plan : FnScope N_is_plan ["value"] (defScope s_is_plan) := ⟨rfl, rfl, rfl, by decide +kernel, rfl, by decide +kernel, by decide +kernel⟩
noncomputable def g_is_plan : GS := (sSeq (sIf (bOr (bNot (gTru (gB bIsiX (aCons (gVar 0) (aCons (gC (.ty "tuple")) aNil))))) (bNot (gAs (gChain oLe oLe (gC (.int 1)) (gB bLen (aCons (gVar 0) aNil)) (gC (.int 6))))))
  (sRet (gC (.bl false)))
  sNext)
  (sRet (gAnd (gB bAll (aCons (gLc (iSeq (gVar 0)) (nName 1) cYes (gCall 3 m_is_between (aCons (gVar 1) (aCons (gC (.int 1)) (aCons (gC (.int 120)) aNil)))) [1]) aNil)) (gBin oLe (gB bSumS (aCons (gVar 0) aNil)) (gC (.int 120))))))
noncomputable def m_is_plan : FM := runF exitF 2 g_is_plan
theorem w_is_plan (T : Txt K mg) (C_is_between : Cal P w K mg base (L2.CX P w) 2 "is_between" 3 m_is_between) : Walks2 (L2.CX P w) P w K mg base 2 N_is_plan "is_plan" (defScope s_is_plan) f (defBody s_is_plan) g_is_plan := by
  intro cdv A outer s H E hr
  have nd := sc_is_plan.nd
  exact (dss_cons (ds_if (DW.db (dw_or (db_not (db_tru (de_b call_isi on_isiX rfl T.f_isinstance bt_isinstance (da_cons (de_var 0) (da_cons (de_type rfl T.f_tuple bt_tuple) da_nil))))) (dw_or1 (db_not (db_chain op_le op_le op2_I op2_I de_int (de_b call_len on_len rfl T.f_len bt_len (da_cons (de_var 0) da_nil)) (de_globI rfl T.c_MOST_TAKES))))))
  (dss_one (ds_ret de_bl))
  dss_nil)
  (dss_one (ds_ret (de_and (de_b (cr_all rfl) on_all rfl T.f_all bt_all (da_cons (de_lc [(("take" : Str), 1)] [1] rfl nd (di_seq (de_var 0)) (blkOk_by (show blkC N_is_plan (defScope s_is_plan) _ _ = true from by decide +kernel)) (fun _ _ _ _ _ => (dg_name 1 nd)) (fun _ _ _ _ _ => pts_y) (fun _ _ _ _ _ => (de_call C_is_between (hr.mono (by decide)) (by first | exact pxE0 | exact passes_call (takes_of rfl rfl rfl rfl) fun _ _ _ _ h => h) rfl (da_cons (de_var 1) (da_cons de_int (da_cons (de_globI rfl T.c_MOST_TOTAL) da_nil)))))) da_nil)) (de_one (de_cmp op_le op2_I (de_b (cr_sumS rfl) on_sumS rfl T.f_sum bt_sum (da_cons (de_var 0) da_nil)) (de_globI rfl T.c_MOST_TOTAL) (nomark _)))))))
abbrev N_BadPlan_init : List Str := ["self", "value"]
theorem sc_BadPlan_init : FnScope N_BadPlan_init ["self", "value"] (defScope s_BadPlan_init) := ⟨rfl, rfl, rfl, by decide +kernel, rfl, by decide +kernel, by decide +kernel⟩
theorem e_BadPlan {x qual : Str} {dvs : List V} {kws : List (Str × V)} {fd : FuncData} (T : Txt K mg) (F : FunD K x qual (defArgs s_BadPlan_init) (defBody s_BadPlan_init) (defScope s_BadPlan_init) dvs kws f fd) : FnOk P w K mg base (L2.CX P w) 1 f fd ["self", "value"] (spE K "value") :=
  fn_init F sc_BadPlan_init (fun _ _ _ _ _ _ => ps_expr (pe_peinit (err_pe T.err) rfl T.g_PermitError (pa_cons (pe_var (i := 0) rfl (.inl rfl)) (pa_cons pe_str pa_nil)))) (fun _ _ _ _ _ _ => ps_ost (pe_var (i := 0) rfl (.inl rfl)) (pe_var (i := 1) rfl (.inl rfl)))
abbrev N_check_plan : List Str := ["plan"]
theorem sc_check_plan : FnScope N_check_plan ["plan"] (defScope s_check_plan) := ⟨rfl, rfl, rfl, by decide +kernel, rfl, by decide +kernel, by decide +kernel⟩
noncomputable def g_check_plan : GS := (sIf (bNot (gTru (gCall 1 m_is_plan (aCons (gVar 0) aNil))))
  (sRaise "BadPlan" "value" (gVar 0))
  sNext)
noncomputable def m_check_plan : FM := runF exitF 1 g_check_plan
theorem w_check_plan (T : Txt K mg) (C_is_plan : Cal P w K mg base (L2.CX P w) 3 "is_plan" 1 m_is_plan) (E_BadPlan : CalE P w K mg base (L2.CX P w) 1 "BadPlan" "value") : Walks2 (L2.CX P w) P w K mg base 3 N_check_plan "check_plan" (defScope s_check_plan) f (defBody s_check_plan) g_check_plan := by
  intro cdv A outer s H E hr
  have nd := sc_check_plan.nd
  exact (dss_one (ds_if (db_not (db_tru (de_call C_is_plan (hr.mono (by decide)) (by first | exact pxE0 | exact passes_call (takes_of rfl rfl rfl rfl) fun _ _ _ _ h => h) rfl (da_cons (de_var 0) da_nil))))
  (dss_one (ds_raise E_BadPlan rfl (takes_of rfl rfl rfl rfl) (hr.mono (by decide)) pxE0 rfl (de_var 0)))
  dss_nil))
abbrev N_Pool_go_on : List Str := ["self", "added", "threads"]
theorem sc_Pool_go_on : FnScope N_Pool_go_on ["self", "added", "threads"] (defScope s_Pool_go_on) := ⟨rfl, rfl, rfl, by decide +kernel, rfl, by decide +kernel, by decide +kernel⟩
noncomputable def g_Pool_go_on : GS := (sSeq (sExpr (gBM "list" mAppend (gFld "Pool" "past" (gVar 0)) (aCons (gFld "Pool" "present" (gVar 0)) aNil)))
  (sAsg (gTup (aCons (gVar 1) (aCons (gB bTuple (aCons (gVar 2) aNil)) aNil))) (nFld "Pool" "present" (gVar 0))))
noncomputable def m_Pool_go_on : FM := runF exitF 3 g_Pool_go_on
theorem w_Pool_go_on (T : Txt K mg)  : Walks2 (L2.CX P w) P w K mg base 0 N_Pool_go_on "Pool.go_on" (defScope s_Pool_go_on) f (defBody s_Pool_go_on) g_Pool_go_on := by
  intro cdv A outer s H E hr
  have nd := sc_Pool_go_on.nd
  exact (dss_cons (ds_expr (de_bm PySem.F.plainAttrs_list PySem.F.slot_list_append PySem.F.type_list_append mt_append om_append (de_fld "Pool" (de_var 0) T.k_Pool T.n_Pool_past) (da_cons (de_fld "Pool" (de_var 0) T.k_Pool T.n_Pool_present) da_nil)))
  (dss_one (ds_asg (de_tup (da_cons (de_var 1) (da_cons (de_bT call_tuple_of on_tuple rfl T.f_tuple bt_tuple (da_cons (de_var 2) da_nil)) da_nil))) (dg_fld "Pool" (de_var 0) T.k_Pool T.n_Pool_present))))
abbrev N_TooMany_init : List Str := ["self", "count"]
theorem sc_TooMany_init : FnScope N_TooMany_init ["self", "count"] (defScope s_TooMany_init) := ⟨rfl, rfl, rfl, by decide +kernel, rfl, by decide +kernel, by decide +kernel⟩
theorem e_TooMany {x qual : Str} {dvs : List V} {kws : List (Str × V)} {fd : FuncData} (T : Txt K mg) (F : FunD K x qual (defArgs s_TooMany_init) (defBody s_TooMany_init) (defScope s_TooMany_init) dvs kws f fd) : FnOk P w K mg base (L2.CX P w) 1 f fd ["self", "count"] (spE K "count") :=
  fn_init F sc_TooMany_init (fun _ _ _ _ _ _ => ps_expr (pe_peinit (err_pe T.err) rfl T.g_PermitError (pa_cons (pe_var (i := 0) rfl (.inl rfl)) (pa_cons pe_str pa_nil)))) (fun _ _ _ _ _ _ => ps_ost (pe_var (i := 0) rfl (.inl rfl)) (pe_var (i := 1) rfl (.inl rfl)))
abbrev N_Pool_begin : List Str := ["self", "plan", "added", "threads"]
theorem sc_Pool_begin : FnScope N_Pool_begin ["self", "plan"] (defScope s_Pool_begin) := ⟨rfl, rfl, rfl, by decide +kernel, rfl, by decide +kernel, by decide +kernel⟩
noncomputable def g_Pool_begin : GS := (sSeq (sExpr (gCall 1 m_check_plan (aCons (gVar 1) aNil)))
  (sSeq (sAsg (gFld "Pool" "present" (gVar 0)) (nTup 2 (nCons (nName 2) (nCons (nName 3) nNil))))
  (sSeq (sIf (gAs (gBin oGe (gB bLen (aCons (gVar 3) aNil)) (gC (.int 200))))
  (sRaise "TooMany" "count" (gBin oAdd (gB bLen (aCons (gVar 3) aNil)) (gC (.int 1))))
  sNext)
  (sSeq (sExpr (gMeth "Pool" "go_on" 3 m_Pool_go_on (gVar 0) (aCons (gBin oAdd (gVar 2) (gC (.int 1))) (aCons (gLst (aStar (gVar 3) (aCons (gTup (aCons (gVar 2) (aCons (gVar 1) (aCons (gC (.int 0)) aNil)))) aNil))) aNil))))
  (sRet (gVar 2))))))
noncomputable def m_Pool_begin : FM := runF exitF 4 g_Pool_begin
theorem w_Pool_begin (T : Txt K mg) (C_check_plan : Cal P w K mg base (L2.CX P w) 4 "check_plan" 1 m_check_plan) (C_Pool_go_on : CalM P w K mg base (L2.CX P w) 1 "Pool" "go_on" 3 m_Pool_go_on) (E_TooMany : CalE P w K mg base (L2.CX P w) 1 "TooMany" "count") : Walks2 (L2.CX P w) P w K mg base 4 N_Pool_begin "Pool.begin" (defScope s_Pool_begin) f (defBody s_Pool_begin) g_Pool_begin := by
  intro cdv A outer s H E hr
  have nd := sc_Pool_begin.nd
  exact (dss_cons (ds_expr (de_call C_check_plan (hr.mono (by decide)) (by first | exact pxE0 | exact passes_call (takes_of rfl rfl rfl rfl) fun _ _ _ _ h => h) rfl (da_cons (de_var 1) da_nil)))
  (dss_cons (ds_asg (de_fld "Pool" (de_var 0) T.k_Pool T.n_Pool_present) (dg_tup 2 rfl (dgs_cons (dg_name 2 nd) (dgs_cons (dg_name 3 nd) dgs_nil))))
  (dss_cons (ds_if (db_cmp op_ge op2_I (de_b call_len on_len rfl T.f_len bt_len (da_cons (de_var 3) da_nil)) (de_conI T.cc_Pool_MOST_THREADS rfl) (nomark _))
  (dss_one (ds_raise E_TooMany rfl (takes_of rfl rfl rfl rfl) (hr.mono (by decide)) pxE0 rfl (de_add (de_b call_len on_len rfl T.f_len bt_len (da_cons (de_var 3) da_nil)) de_int)))
  dss_nil)
  (dss_cons (ds_expr (de_meth (de_var 0) C_Pool_go_on (hr.mono (by decide)) (by first | exact pxE0 | exact passes_call (takes_of rfl rfl rfl rfl) fun _ _ _ _ h => h) (da_cons (de_add (de_var 2) de_int) (da_cons (de_lst (da_star (de_var 3) (da_cons (de_tup (da_cons (de_var 2) (da_cons (de_var 1) (da_cons de_int da_nil)))) da_nil))) da_nil))))
  (dss_one (ds_ret (de_var 2)))))))
abbrev N_NothingToUndo_init : List Str := ["self"]
theorem sc_NothingToUndo_init : FnScope N_NothingToUndo_init ["self"] (defScope s_NothingToUndo_init) := ⟨rfl, rfl, rfl, by decide +kernel, rfl, by decide +kernel, by decide +kernel⟩
theorem e_NothingToUndo {x qual : Str} {dvs : List V} {kws : List (Str × V)} {fd : FuncData} (T : Txt K mg) (F : FunD K x qual (defArgs s_NothingToUndo_init) (defBody s_NothingToUndo_init) (defScope s_NothingToUndo_init) dvs kws f fd) : FnOk P w K mg base (L2.CX P w) 1 f fd ["self"] (spE0 K) :=
  fn_init0 F sc_NothingToUndo_init (fun _ _ _ _ _ _ => ps_expr (pe_peinit (err_pe T.err) rfl T.g_PermitError (pa_cons (pe_var (i := 0) rfl (.inl rfl)) (pa_cons pe_str pa_nil))))
abbrev N_Pool_undo : List Str := ["self"]
theorem sc_Pool_undo : FnScope N_Pool_undo ["self"] (defScope s_Pool_undo) := ⟨rfl, rfl, rfl, by decide +kernel, rfl, by decide +kernel, by decide +kernel⟩
noncomputable def g_Pool_undo : GS := (sSeq (sIf (gAs (gBin (oEq false) (gFld "Pool" "past" (gVar 0)) (gLst aNil)))
  (sRaise0 "NothingToUndo")
  sNext)
  (sAsg (gBM "list" mPop (gFld "Pool" "past" (gVar 0)) aNil) (nFld "Pool" "present" (gVar 0))))
noncomputable def m_Pool_undo : FM := runF exitF 1 g_Pool_undo
theorem w_Pool_undo (T : Txt K mg) (Z_NothingToUndo : CalE0 P w K mg base (L2.CX P w) 1 "NothingToUndo") : Walks2 (L2.CX P w) P w K mg base 2 N_Pool_undo "Pool.undo" (defScope s_Pool_undo) f (defBody s_Pool_undo) g_Pool_undo := by
  intro cdv A outer s H E hr
  have nd := sc_Pool_undo.nd
  have hu64 := hr.units
  exact (dss_cons (ds_if (db_cmp (op_eqD hu64) op2_eq (de_fld "Pool" (de_var 0) T.k_Pool T.n_Pool_past) (de_lst da_nil) (nomark _))
  (dss_one (ds_raise0 Z_NothingToUndo rfl (takes_of rfl rfl rfl rfl) (hr.mono (by decide)) pxE0 rfl))
  dss_nil)
  (dss_one (ds_asg (de_bm0 PySem.F.plainAttrs_list PySem.F.slot_list_pop PySem.F.type_list_pop mt_pop om_pop (de_fld "Pool" (de_var 0) T.k_Pool T.n_Pool_past)) (dg_fld "Pool" (de_var 0) T.k_Pool T.n_Pool_present))))
abbrev N_lost_among : List Str := ["free", "threads", "left", "is_stuck_now", "done", "one", "thread", "plan", "point"]
theorem sc_lost_among : FnScope N_lost_among ["free", "threads"] (defScope s_lost_among) := ⟨rfl, rfl, rfl, by decide +kernel, rfl, by decide +kernel, by decide +kernel⟩
noncomputable def g_lost_among : GS := (sSeq (sPar 2 3 (aCons (gB bList (aCons (gVar 1) aNil)) (aCons (gC (.bl false)) aNil)))
  (sSeq (sWhile (bNot (gTru (gVar 3)))
  (sSeq (sAsg (gLc (iSeq (gVar 2)) (nName 5) (gAs (gBin oLe (gB bSumS (aCons (gCut (gBin oIx (gVar 5) (gC (.int 1))) (some (gBin oIx (gVar 5) (gC (.int 2)))) none) aNil)) (gVar 0))) (gVar 5) [5]) (nName 4))
  (sSeq (sAsg (gBin (oEq false) (gVar 4) (gLst aNil)) (nName 3))
  (sSeq (sAug 0 oAddI (gB bSumS (aCons (gLc (iSeq (gVar 4)) (nTup 3 (nCons (nName 6) (nCons (nName 7) (nCons (nName 8) nNil)))) cYes (gB bSumS (aCons (gCut (gVar 7) none (some (gVar 8))) aNil)) [6, 7, 8]) aNil)))
  (sAsg (gLc (iSeq (gVar 2)) (nName 5) (gAs (gBin (oInX true) (gVar 5) (gVar 4))) (gVar 5) [5]) (nName 2))))))
  (sRet (gB bTuple (aCons (gLc (iSeq (gVar 2)) (nTup 3 (nCons (nName 6) (nCons (nName 7) (nCons (nName 8) nNil)))) cYes (gVar 6) [6, 7, 8]) aNil)))))
noncomputable def m_lost_among : FM := runF exitF 9 g_lost_among
theorem w_lost_among (T : Txt K mg)  : Walks2 (L2.CX P w) P w K mg base 0 N_lost_among "lost_among" (defScope s_lost_among) f (defBody s_lost_among) g_lost_among := by
  intro cdv A outer s H E hr
  have nd := sc_lost_among.nd
  have hu1 := hu_of hr
  have hu64 := hr.units
  have hu65 := units65 hr
  have po : PassesOwn (model P w) _ _ (cxOf (L2.CX P w) P w K mg base N_lost_among "lost_among" (defScope s_lost_among) f cdv A outer s H E).xe := passes_of rfl
  exact (dss_cons (ds_par rfl nd (da_cons (de_bT call_list_of on_list rfl T.f_list bt_list (da_cons (de_var 1) da_nil)) (da_cons de_bl da_nil)))
  (dss_cons (ds_while po (db_not (db_tru (de_var 3)))
  (dss_cons (ds_set 4 nd (de_lc [(("one" : Str), 5)] [5] rfl nd (di_seq (de_var 2)) (blkOk_by (show blkC N_lost_among (defScope s_lost_among) _ _ = true from by decide +kernel)) (fun _ _ _ _ _ => (dg_name 5 nd)) (fun _ _ _ _ _ => (pts_b (db_cmp op_le op2_I (de_b (cr_sumS rfl) on_sumS rfl T.f_sum bt_sum (da_cons (de_cut (de_ix hu1 (de_var 5) de_int) (do_some (de_ix hu1 (de_var 5) de_int)) do_none) da_nil)) (de_var 0) (nomark _)))) (fun _ _ _ _ _ => (de_var 5))))
  (dss_cons (ds_set 3 nd (de_cmp (op_eqD hu64) op2_eq (de_var 4) (de_lst da_nil) (nomark _)))
  (dss_cons (ds_aug 0 nd iop_add3 op2_add3 (de_b (cr_sumS rfl) on_sumS rfl T.f_sum bt_sum (da_cons (de_lc [(("thread" : Str), 6), (("plan" : Str), 7), (("point" : Str), 8)] [6, 7, 8] rfl nd (di_seq (de_var 4)) (blkOk_by (show blkC N_lost_among (defScope s_lost_among) _ _ = true from by decide +kernel)) (fun _ _ _ _ _ => (dg_tup 3 rfl (dgs_cons (dg_name 6 nd) (dgs_cons (dg_name 7 nd) (dgs_cons (dg_name 8 nd) dgs_nil))))) (fun _ _ _ _ _ => pts_y) (fun _ _ _ _ _ => (de_b (cr_sumS rfl) on_sumS rfl T.f_sum bt_sum (da_cons (de_cut (de_var 7) do_none (do_some (de_var 8))) da_nil)))) da_nil)))
  (dss_one (ds_setLc 2 [(("one" : Str), 5)] [5] rfl nd (sw_true rfl rfl rfl (by decide +kernel)) (di_seq (de_var 2)) (blkOk_by (show blkC N_lost_among (defScope s_lost_among) _ _ = true from by decide +kernel)) (fun _ _ _ _ _ => (dg_name 5 nd)) (fun _ _ _ _ _ => (pts_b (db_cmp (op_notInX hu65) op2_inX (de_var 5) (de_var 4) (by with_unfolding_all rfl)))) (fun _ _ _ _ _ => (de_var 5))))))))
  (dss_one (ds_ret (de_bT call_tuple_of on_tuple rfl T.f_tuple bt_tuple (da_cons (de_lc [(("thread" : Str), 6), (("plan" : Str), 7), (("point" : Str), 8)] [6, 7, 8] rfl nd (di_seq (de_var 2)) (blkOk_by (show blkC N_lost_among (defScope s_lost_among) _ _ = true from by decide +kernel)) (fun _ _ _ _ _ => (dg_tup 3 rfl (dgs_cons (dg_name 6 nd) (dgs_cons (dg_name 7 nd) (dgs_cons (dg_name 8 nd) dgs_nil))))) (fun _ _ _ _ _ => pts_y) (fun _ _ _ _ _ => (de_var 6))) da_nil))))))
abbrev N_Pool_free : List Str := ["self", "thread", "plan", "point"]
theorem sc_Pool_free : FnScope N_Pool_free ["self"] (defScope s_Pool_free) := ⟨rfl, rfl, rfl, by decide +kernel, rfl, by decide +kernel, by decide +kernel⟩
noncomputable def g_Pool_free : GS := (sRet (gBin oSub (gFld "Pool" "whole" (gVar 0)) (gB bSumS (aCons (gLc (iSeq (gBin oIx (gFld "Pool" "present" (gVar 0)) (gC (.int 1)))) (nTup 3 (nCons (nName 1) (nCons (nName 2) (nCons (nName 3) nNil)))) cYes (gB bSumS (aCons (gCut (gVar 2) none (some (gVar 3))) aNil)) [1, 2, 3]) aNil))))
noncomputable def m_Pool_free : FM := runF exitF 4 g_Pool_free
theorem w_Pool_free (T : Txt K mg)  : Walks2 (L2.CX P w) P w K mg base 0 N_Pool_free "Pool.free" (defScope s_Pool_free) f (defBody s_Pool_free) g_Pool_free := by
  intro cdv A outer s H E hr
  have nd := sc_Pool_free.nd
  have hu1 := hu_of hr
  exact (dss_one (ds_ret (de_sub (de_fld "Pool" (de_var 0) T.k_Pool T.n_Pool_whole) (de_b (cr_sumS rfl) on_sumS rfl T.f_sum bt_sum (da_cons (de_lc [(("thread" : Str), 1), (("plan" : Str), 2), (("point" : Str), 3)] [1, 2, 3] rfl nd (di_seq (de_ix hu1 (de_fld "Pool" (de_var 0) T.k_Pool T.n_Pool_present) de_int)) (blkOk_by (show blkC N_Pool_free (defScope s_Pool_free) _ _ = true from by decide +kernel)) (fun _ _ _ _ _ => (dg_tup 3 rfl (dgs_cons (dg_name 1 nd) (dgs_cons (dg_name 2 nd) (dgs_cons (dg_name 3 nd) dgs_nil))))) (fun _ _ _ _ _ => pts_y) (fun _ _ _ _ _ => (de_b (cr_sumS rfl) on_sumS rfl T.f_sum bt_sum (da_cons (de_cut (de_var 2) do_none (do_some (de_var 3))) da_nil)))) da_nil)))))
abbrev N_Waiting_init : List Str := ["self", "left"]
theorem sc_Waiting_init : FnScope N_Waiting_init ["self", "left"] (defScope s_Waiting_init) := ⟨rfl, rfl, rfl, by decide +kernel, rfl, by decide +kernel, by decide +kernel⟩
theorem e_Waiting {x qual : Str} {dvs : List V} {kws : List (Str × V)} {fd : FuncData} (T : Txt K mg) (F : FunD K x qual (defArgs s_Waiting_init) (defBody s_Waiting_init) (defScope s_Waiting_init) dvs kws f fd) : FnOk P w K mg base (L2.CX P w) 1 f fd ["self", "left"] (spE K "left") :=
  fn_init F sc_Waiting_init (fun _ _ _ _ _ _ => ps_expr (pe_peinit (err_pe T.err) rfl T.g_PermitError (pa_cons (pe_var (i := 0) rfl (.inl rfl)) (pa_cons pe_str pa_nil)))) (fun _ _ _ _ _ _ => ps_ost (pe_var (i := 0) rfl (.inl rfl)) (pe_var (i := 1) rfl (.inl rfl)))
abbrev N_NoThread_init : List Str := ["self", "value"]
theorem sc_NoThread_init : FnScope N_NoThread_init ["self", "value"] (defScope s_NoThread_init) := ⟨rfl, rfl, rfl, by decide +kernel, rfl, by decide +kernel, by decide +kernel⟩
theorem e_NoThread {x qual : Str} {dvs : List V} {kws : List (Str × V)} {fd : FuncData} (T : Txt K mg) (F : FunD K x qual (defArgs s_NoThread_init) (defBody s_NoThread_init) (defScope s_NoThread_init) dvs kws f fd) : FnOk P w K mg base (L2.CX P w) 1 f fd ["self", "value"] (spE K "value") :=
  fn_init F sc_NoThread_init (fun _ _ _ _ _ _ => ps_expr (pe_peinit (err_pe T.err) rfl T.g_PermitError (pa_cons (pe_var (i := 0) rfl (.inl rfl)) (pa_cons pe_str pa_nil)))) (fun _ _ _ _ _ _ => ps_ost (pe_var (i := 0) rfl (.inl rfl)) (pe_var (i := 1) rfl (.inl rfl)))
abbrev N_Pool_taken : List Str := ["self", "thread", "found", "is_there", "number", "plan", "point"]
theorem sc_Pool_taken : FnScope N_Pool_taken ["self", "thread"] (defScope s_Pool_taken) := ⟨rfl, rfl, rfl, by decide +kernel, rfl, by decide +kernel, by decide +kernel⟩
noncomputable def g_Pool_taken : GS := (sSeq (sPar 2 3 (aCons (gLstM aNil) (aCons (gC (.bl false)) aNil)))
  (sSeq (sFor (iSeq (gBin oIx (gFld "Pool" "present" (gVar 0)) (gC (.int 1)))) (nTup 3 (nCons (nName 4) (nCons (nName 5) (nCons (nName 6) nNil))))
  (sIf (gTru (gCall 3 m_is_between (aCons (gVar 1) (aCons (gVar 4) (aCons (gVar 4) aNil)))))
  (sSeq (sAsg (gC (.bl true)) (nName 3))
  (sSeq (sIf (gAs (gBin oGt (gBin oIx (gVar 5) (gVar 6)) (gNoX (gProp "Pool" m_Pool_free (gVar 0)))))
  (sRaise "Waiting" "left" (gNoX (gProp "Pool" m_Pool_free (gVar 0))))
  sNext)
  (sIf (gAs (gBin oLt (gBin oAdd (gVar 6) (gC (.int 1))) (gB bLen (aCons (gVar 5) aNil))))
  (sExpr (gBM "list" mAppend (gVar 2) (aCons (gTup (aCons (gVar 4) (aCons (gVar 5) (aCons (gBin oAdd (gVar 6) (gC (.int 1))) aNil)))) aNil)))
  sNext)))
  (sExpr (gBM "list" mAppend (gVar 2) (aCons (gTup (aCons (gVar 4) (aCons (gVar 5) (aCons (gVar 6) aNil)))) aNil)))))
  (sSeq (sIf (bNot (gTru (gVar 3)))
  (sRaise "NoThread" "value" (gVar 1))
  sNext)
  (sRet (gVar 2)))))
noncomputable def m_Pool_taken : FM := runF exitF 7 g_Pool_taken
theorem w_Pool_taken (T : Txt K mg) (C_is_between : Cal P w K mg base (L2.CX P w) 2 "is_between" 3 m_is_between) (P_Pool_free : CalP P w K mg base (L2.CX P w) 1 "Pool" "free" m_Pool_free) (E_Waiting : CalE P w K mg base (L2.CX P w) 1 "Waiting" "left") (E_NoThread : CalE P w K mg base (L2.CX P w) 1 "NoThread" "value") : Walks2 (L2.CX P w) P w K mg base 2 N_Pool_taken "Pool.taken" (defScope s_Pool_taken) f (defBody s_Pool_taken) g_Pool_taken := by
  intro cdv A outer s H E hr
  have nd := sc_Pool_taken.nd
  have hu1 := hu_of hr
  have hu0 := hr.units0
  have po : PassesOwn (model P w) _ _ (cxOf (L2.CX P w) P w K mg base N_Pool_taken "Pool.taken" (defScope s_Pool_taken) f cdv A outer s H E).xe := passes_of rfl
  exact (dss_cons (ds_par rfl nd (da_cons (de_lstM da_nil) (da_cons de_bl da_nil)))
  (dss_cons (ds_for po rfl (di_seq (de_ix hu1 (de_fld "Pool" (de_var 0) T.k_Pool T.n_Pool_present) de_int)) (dg_tup 3 rfl (dgs_cons (dg_name 4 nd) (dgs_cons (dg_name 5 nd) (dgs_cons (dg_name 6 nd) dgs_nil))))
  (dss_one (ds_if (db_tru (de_call C_is_between (hr.mono (by decide)) (by first | exact pxE0 | exact passes_call (takes_of rfl rfl rfl rfl) fun _ _ _ _ h => h) rfl (da_cons (de_var 1) (da_cons (de_var 4) (da_cons (de_var 4) da_nil)))))
  (dss_cons (ds_set 3 nd de_bl)
  (dss_cons (ds_if (db_cmp op_gt op2_I (de_ix hu1 (de_var 5) (de_var 6)) (de_propN (fun _ => (de_var 0)) P_Pool_free (hr.mono (by decide)) pxE0) (nomark _))
  (dss_one (ds_raise E_Waiting rfl (takes_of rfl rfl rfl rfl) (hr.mono (by decide)) pxE0 rfl (de_propN (fun _ => (de_var 0)) P_Pool_free (hr.mono (by decide)) pxE0)))
  dss_nil)
  (dss_one (ds_if (db_cmp (or_lt hu0) op2_lt (de_add (de_var 6) de_int) (de_b call_len on_len rfl T.f_len bt_len (da_cons (de_var 5) da_nil)) (nomark _))
  (dss_one (ds_expr (de_bm PySem.F.plainAttrs_list PySem.F.slot_list_append PySem.F.type_list_append mt_append om_append (de_var 2) (da_cons (de_tup (da_cons (de_var 4) (da_cons (de_var 5) (da_cons (de_add (de_var 6) de_int) da_nil)))) da_nil))))
  dss_nil))))
  (dss_one (ds_expr (de_bm PySem.F.plainAttrs_list PySem.F.slot_list_append PySem.F.type_list_append mt_append om_append (de_var 2) (da_cons (de_tup (da_cons (de_var 4) (da_cons (de_var 5) (da_cons (de_var 6) da_nil)))) da_nil)))))))
  (dss_cons (ds_if (db_not (db_tru (de_var 3)))
  (dss_one (ds_raise E_NoThread rfl (takes_of rfl rfl rfl rfl) (hr.mono (by decide)) pxE0 rfl (de_var 1)))
  dss_nil)
  (dss_one (ds_ret (de_var 2))))))
abbrev N_Unsafe_init : List Str := ["self", "threads"]
theorem sc_Unsafe_init : FnScope N_Unsafe_init ["self", "threads"] (defScope s_Unsafe_init) := ⟨rfl, rfl, rfl, by decide +kernel, rfl, by decide +kernel, by decide +kernel⟩
theorem e_Unsafe {x qual : Str} {dvs : List V} {kws : List (Str × V)} {fd : FuncData} (T : Txt K mg) (F : FunD K x qual (defArgs s_Unsafe_init) (defBody s_Unsafe_init) (defScope s_Unsafe_init) dvs kws f fd) : FnOk P w K mg base (L2.CX P w) 1 f fd ["self", "threads"] (spE K "threads") :=
  fn_init F sc_Unsafe_init (fun _ _ _ _ _ _ => ps_expr (pe_peinit (err_pe T.err) rfl T.g_PermitError (pa_cons (pe_var (i := 0) rfl (.inl rfl)) (pa_cons pe_str pa_nil)))) (fun _ _ _ _ _ _ => ps_ost (pe_var (i := 0) rfl (.inl rfl)) (pe_var (i := 1) rfl (.inl rfl)))
abbrev N_Pool_take : List Str := ["self", "thread", "found", "free", "threads", "number", "plan", "point", "one"]
theorem sc_Pool_take : FnScope N_Pool_take ["self", "thread"] (defScope s_Pool_take) := ⟨rfl, rfl, rfl, by decide +kernel, rfl, by decide +kernel, by decide +kernel⟩
noncomputable def g_Pool_take : GS := (sSeq (sAsg (gMeth "Pool" "taken" 2 m_Pool_taken (gVar 0) (aCons (gVar 1) aNil)) (nName 2))
  (sSeq (sIf (gTru (gFld "Pool" "is_careful" (gVar 0)))
  (sSeq (sAsg (gBin oSub (gFld "Pool" "whole" (gVar 0)) (gB bSumS (aCons (gLc (iSeq (gVar 2)) (nTup 3 (nCons (nName 5) (nCons (nName 6) (nCons (nName 7) nNil)))) cYes (gB bSumS (aCons (gCut (gVar 6) none (some (gVar 7))) aNil)) [5, 6, 7]) aNil))) (nName 3))
  (sSeq (sAsg (gCall 2 m_lost_among (aCons (gVar 3) (aCons (gLc (iSeq (gVar 2)) (nName 8) (gAs (gBin oGt (gBin oIx (gVar 8) (gC (.int 2))) (gC (.int 0)))) (gVar 8) [8]) aNil))) (nName 4))
  (sIf (gAs (gBin oNeX (gVar 4) (gTup aNil)))
  (sRaise "Unsafe" "threads" (gVar 4))
  sNext)))
  sNext)
  (sSeq (sExpr (gMeth "Pool" "go_on" 3 m_Pool_go_on (gVar 0) (aCons (gBin oIx (gFld "Pool" "present" (gVar 0)) (gC (.int 0))) (aCons (gVar 2) aNil))))
  (sRet (gBin (oInX true) (gVar 1) (gLc (iSeq (gVar 2)) (nName 8) cYes (gBin oIx (gVar 8) (gC (.int 0))) [8]))))))
noncomputable def m_Pool_take : FM := runF exitF 9 g_Pool_take
theorem w_Pool_take (T : Txt K mg) (C_lost_among : Cal P w K mg base (L2.CX P w) 1 "lost_among" 2 m_lost_among) (C_Pool_taken : CalM P w K mg base (L2.CX P w) 3 "Pool" "taken" 2 m_Pool_taken) (C_Pool_go_on : CalM P w K mg base (L2.CX P w) 1 "Pool" "go_on" 3 m_Pool_go_on) (E_Unsafe : CalE P w K mg base (L2.CX P w) 1 "Unsafe" "threads") : Walks2 (L2.CX P w) P w K mg base 3 N_Pool_take "Pool.take" (defScope s_Pool_take) f (defBody s_Pool_take) g_Pool_take := by
  intro cdv A outer s H E hr
  have nd := sc_Pool_take.nd
  have hu1 := hu_of hr
  have hu0 := hr.units0
  have hu64 := hr.units
  have hu65 := units65 hr
  exact (dss_cons (ds_set 2 nd (de_meth (de_var 0) C_Pool_taken (hr.mono (by decide)) (by first | exact pxE0 | exact passes_call (takes_of rfl rfl rfl rfl) fun _ _ _ _ h => h) (da_cons (de_var 1) da_nil)))
  (dss_cons (ds_if (db_tru (de_fld "Pool" (de_var 0) T.k_Pool T.n_Pool_is_careful))
  (dss_cons (ds_set 3 nd (de_sub (de_fld "Pool" (de_var 0) T.k_Pool T.n_Pool_whole) (de_b (cr_sumS rfl) on_sumS rfl T.f_sum bt_sum (da_cons (de_lc [(("number" : Str), 5), (("plan" : Str), 6), (("point" : Str), 7)] [5, 6, 7] rfl nd (di_seq (de_var 2)) (blkOk_by (show blkC N_Pool_take (defScope s_Pool_take) _ _ = true from by decide +kernel)) (fun _ _ _ _ _ => (dg_tup 3 rfl (dgs_cons (dg_name 5 nd) (dgs_cons (dg_name 6 nd) (dgs_cons (dg_name 7 nd) dgs_nil))))) (fun _ _ _ _ _ => pts_y) (fun _ _ _ _ _ => (de_b (cr_sumS rfl) on_sumS rfl T.f_sum bt_sum (da_cons (de_cut (de_var 6) do_none (do_some (de_var 7))) da_nil)))) da_nil))))
  (dss_cons (ds_set 4 nd (de_call C_lost_among (hr.mono (by decide)) (by first | exact pxE0 | exact passes_call (takes_of rfl rfl rfl rfl) fun _ _ _ _ h => h) rfl (da_cons (de_var 3) (da_cons (de_lc [(("one" : Str), 8)] [8] rfl nd (di_seq (de_var 2)) (blkOk_by (show blkC N_Pool_take (defScope s_Pool_take) _ _ = true from by decide +kernel)) (fun _ _ _ _ _ => (dg_name 8 nd)) (fun _ _ _ _ _ => (pts_b (db_cmp op_gt op2_I (de_ix hu1 (de_var 8) de_int) de_int (nomark _)))) (fun _ _ _ _ _ => (de_var 8))) da_nil))))
  (dss_one (ds_if (db_cmp (or_neX hu0 hu64) op2_neX (de_var 4) (de_tup da_nil) (nomark _))
  (dss_one (ds_raise E_Unsafe rfl (takes_of rfl rfl rfl rfl) (hr.mono (by decide)) pxE0 rfl (de_var 4)))
  dss_nil))))
  dss_nil)
  (dss_cons (ds_expr (de_meth (de_var 0) C_Pool_go_on (hr.mono (by decide)) (by first | exact pxE0 | exact passes_call (takes_of rfl rfl rfl rfl) fun _ _ _ _ h => h) (da_cons (de_ix hu1 (de_fld "Pool" (de_var 0) T.k_Pool T.n_Pool_present) de_int) (da_cons (de_var 2) da_nil))))
  (dss_one (ds_ret (de_cmp (op_notInX hu65) op2_inX (de_var 1) (de_lc [(("one" : Str), 8)] [8] rfl nd (di_seq (de_var 2)) (blkOk_by (show blkC N_Pool_take (defScope s_Pool_take) _ _ = true from by decide +kernel)) (fun _ _ _ _ _ => (dg_name 8 nd)) (fun _ _ _ _ _ => pts_y) (fun _ _ _ _ _ => (de_ix hu1 (de_var 8) de_int))) (by with_unfolding_all rfl)))))))
abbrev N_Lsome_calls : List Str := ["_law_source", "_law_basin", "_law_most", "_law_turn", "_law_way"]
theorem sc_Lsome_calls : FnScope N_Lsome_calls ["_law_source", "_law_basin", "_law_most"] (defScope s_Lsome_calls) := ⟨rfl, rfl, rfl, by decide +kernel, rfl, by decide +kernel, by decide +kernel⟩
noncomputable def g_Lsome_calls : GS := (sFor (iRange1 (gCall 2 m_Ldraw (aCons (gVar 0) (aCons (gBin oAdd (gVar 2) (gC (.int 1))) aNil)))) (nName 3)
  (sTrim (sSeq (sAsg (gCall 2 m_Ldraw (aCons (gVar 0) (aCons (gC (.int 6)) aNil))) (nName 4))
  (sTryN (subL errK) (("PermitError", none, (sAsg (gC (.int 0)) (nName 4))) :: []) (sIf (gAs (gBin oLt (gVar 4) (gC (.int 2)))) (sExpr (gMeth "Pool" "begin" 2 m_Pool_begin (gVar 1) (aCons (gCall 2 m_Lplan (aCons (gVar 0) (aCons (gC (.int 6)) aNil))) aNil))) (sIf (gAs (gBin (oEq false) (gVar 4) (gC (.int 2)))) (sExpr (gMeth "Pool" "undo" 1 m_Pool_undo (gVar 1) aNil)) (sExpr (gMeth "Pool" "take" 2 m_Pool_take (gVar 1) (aCons (gCall 2 m_Ldraw (aCons (gVar 0) (aCons (gC (.int 8)) aNil))) aNil)))))))))
noncomputable def m_Lsome_calls : FM := runF exitF 5 g_Lsome_calls
theorem w_Lsome_calls (T : Txt K mg) (C_Ldraw : Cal P w K mg base (L2.CX P w) 1 "_law_draw" 2 m_Ldraw) (C_Lplan : Cal P w K mg base (L2.CX P w) 3 "_law_plan" 2 m_Lplan) (C_Pool_begin : CalM P w K mg base (L2.CX P w) 5 "Pool" "begin" 2 m_Pool_begin) (C_Pool_undo : CalM P w K mg base (L2.CX P w) 3 "Pool" "undo" 1 m_Pool_undo) (C_Pool_take : CalM P w K mg base (L2.CX P w) 4 "Pool" "take" 2 m_Pool_take) : Walks2 (L2.CX P w) P w K mg base 5 N_Lsome_calls "_law_some_calls" (defScope s_Lsome_calls) f (defBody s_Lsome_calls) g_Lsome_calls := by
  intro cdv A outer s H E hr
  have nd := sc_Lsome_calls.nd
  have hu0 := hr.units0
  have hu64 := hr.units
  have po : PassesOwn (model P w) _ _ (cxOf (L2.CX P w) P w K mg base N_Lsome_calls "_law_some_calls" (defScope s_Lsome_calls) f cdv A outer s H E).xe := passes_of rfl
  exact (dss_one (ds_for po rfl (di_range1 rfl T.f_range (de_call C_Ldraw (hr.mono (by decide)) (by first | exact pxE0 | exact passes_call (takes_of rfl rfl rfl rfl) fun _ _ _ _ h => h) rfl (da_cons (de_var 0) (da_cons (de_add (de_var 2) de_int) da_nil)))) (dg_name 3 nd)
  (dss_trim (dss_cons (ds_set 4 nd (de_call C_Ldraw (hr.mono (by decide)) (by first | exact pxE0 | exact passes_call (takes_of rfl rfl rfl rfl) fun _ _ _ _ h => h) rfl (da_cons (de_var 0) (da_cons de_int da_nil))))
  (dss_one (ds_tryN rfl rfl nd (takes_of rfl rfl rfl rfl) (fun _ _ _ hp1 _ => (dss_oneσ (ds_ifσ (fun _ => (db_cmp (or_lt hu0) op2_lt (de_var 4) de_int (nomark _))) (dss_oneσ (ds_exprσ (de_methAσ (fun _ => (de_var 1)) C_Pool_begin (hr.mono (by decide)) hp1 (da_consσ (de_callσ C_Lplan (hr.mono (by decide)) hp1 rfl (da_σ fun _ => (da_cons (de_var 0) (da_cons de_int da_nil)))) da_nilσ)))) (dss_oneσ (ds_ifσ (fun _ => (db_cmp (op_eqD hu64) op2_eq (de_var 4) de_int (nomark _))) (dss_oneσ (ds_exprσ (de_meth0σ (fun _ => (de_var 1)) C_Pool_undo (hr.mono (by decide)) hp1))) (dss_oneσ (ds_exprσ (de_methAσ (fun _ => (de_var 1)) C_Pool_take (hr.mono (by decide)) hp1 (da_consσ (de_callσ C_Ldraw (hr.mono (by decide)) hp1 rfl (da_σ fun _ => (da_cons (de_var 0) (da_cons de_int da_nil)))) da_nilσ)))))))))
  (.consN ⟨rfl, by decide, .inl T.g_PermitError⟩ (err_exm T.err "PermitError") (fun _ _ => (dss_one (ds_set 4 nd de_int))) .nil)))))))
abbrev N_Pool_steps : List Str := ["self"]
theorem sc_Pool_steps : FnScope N_Pool_steps ["self"] (defScope s_Pool_steps) := ⟨rfl, rfl, rfl, by decide +kernel, rfl, by decide +kernel, by decide +kernel⟩
noncomputable def g_Pool_steps : GS := (sRet (gB bLen (aCons (gFld "Pool" "past" (gVar 0)) aNil)))
noncomputable def m_Pool_steps : FM := runF exitF 1 g_Pool_steps
theorem w_Pool_steps (T : Txt K mg)  : Walks2 (L2.CX P w) P w K mg base 0 N_Pool_steps "Pool.steps" (defScope s_Pool_steps) f (defBody s_Pool_steps) g_Pool_steps := by
  intro cdv A outer s H E hr
  have nd := sc_Pool_steps.nd
  exact (dss_one (ds_ret (de_b call_len on_len rfl T.f_len bt_len (da_cons (de_fld "Pool" (de_var 0) T.k_Pool T.n_Pool_past) da_nil))))
abbrev N_Pool_unfinished : List Str := ["self"]
theorem sc_Pool_unfinished : FnScope N_Pool_unfinished ["self"] (defScope s_Pool_unfinished) := ⟨rfl, rfl, rfl, by decide +kernel, rfl, by decide +kernel, by decide +kernel⟩
noncomputable def g_Pool_unfinished : GS := (sRet (gBin oIx (gFld "Pool" "present" (gVar 0)) (gC (.int 1))))
noncomputable def m_Pool_unfinished : FM := runF exitF 1 g_Pool_unfinished
theorem w_Pool_unfinished (T : Txt K mg)  : Walks2 (L2.CX P w) P w K mg base 0 N_Pool_unfinished "Pool.unfinished" (defScope s_Pool_unfinished) f (defBody s_Pool_unfinished) g_Pool_unfinished := by
  intro cdv A outer s H E hr
  have nd := sc_Pool_unfinished.nd
  have hu1 := hu_of hr
  exact (dss_one (ds_ret (de_ix hu1 (de_fld "Pool" (de_var 0) T.k_Pool T.n_Pool_present) de_int)))
abbrev N_Laction : List Str := ["_law_source", "_law_basin", "_law_held", "_law_depth", "_law_way"]
theorem sc_Laction : FnScope N_Laction ["_law_source", "_law_basin", "_law_held", "_law_depth"] (defScope s_Laction) := ⟨rfl, rfl, rfl, by decide +kernel, rfl, by decide +kernel, by decide +kernel⟩
noncomputable def g_Laction (R : FM) : GS := (sSeq (sIf (bOr (gAs (gBin oNeX (gMeth "Pool" "steps" 1 m_Pool_steps (gVar 2) aNil) (gMeth "Pool" "steps" 1 m_Pool_steps (gVar 1) aNil))) (gAs (gBin oNeX (gMeth "Pool" "unfinished" 1 m_Pool_unfinished (gVar 2) aNil) (gMeth "Pool" "unfinished" 1 m_Pool_unfinished (gVar 1) aNil))))
  (sRet (gC (.str "other")))
  sNext)
  (sSeq (sExpr (gCall 3 m_Lsome_calls (aCons (gVar 0) (aCons (gVar 2) (aCons (gC (.int 15)) aNil)))))
  (sSeq (sIf (bAnd (gAs (gBin oGt (gVar 3) (gC (.int 0)))) (bNot (gTru (gCall 3 R (aCons (gVar 0) (aCons (gVar 2) (aCons (gBin oSub (gVar 3) (gC (.int 1))) aNil)))))))
  (sRet (gC (.str "inner")))
  sNext)
  (sSeq (sAsg (gCall 2 m_Ldraw (aCons (gVar 0) (aCons (gC (.int 5)) aNil))) (nName 4))
  (sSeq (sIf (gAs (gBin (oEq false) (gVar 4) (gC (.int 0))))
  sRaiseK
  sNext)
  (sSeq (sIf (gAs (gBin (oEq false) (gVar 4) (gC (.int 1))))
  (sRaise0 "NothingToUndo")
  sNext)
  (sRet (gTup (aCons (gC (.str "told")) (aCons (gMeth "Pool" "steps" 1 m_Pool_steps (gVar 2) aNil) aNil))))))))))
theorem w_Laction (n : Nat) {Rm : FM} (T : Txt K mg) (C_Lsome_calls : Cal P w K mg base (L2.CX P w) 6 "_law_some_calls" 3 m_Lsome_calls) (C_Ldraw : Cal P w K mg base (L2.CX P w) 1 "_law_draw" 2 m_Ldraw) (C_Pool_steps : CalM P w K mg base (L2.CX P w) 1 "Pool" "steps" 1 m_Pool_steps) (C_Pool_unfinished : CalM P w K mg base (L2.CX P w) 1 "Pool" "unfinished" 1 m_Pool_unfinished) (Z_NothingToUndo : CalE0 P w K mg base (L2.CX P w) 1 "NothingToUndo") (R_Ltrial_right : Cal P w K mg base (L2.CX P w) (9 + 4 * n) "_law_trial_right" 3 Rm) : Walks2 (L2.CX P w) P w K mg base (9 + 4 * n) N_Laction "_law_action" (defScope s_Laction) f (defBody s_Laction) (g_Laction Rm) := by
  intro cdv A outer s H E hr
  have nd := sc_Laction.nd
  have hu0 := hr.units0
  have hu64 := hr.units
  exact (dss_cons (ds_if (DW.db (dw_or (db_cmp (or_neX hu0 hu64) op2_neX (de_meth0 (de_var 2) C_Pool_steps (hr.mono (by omega)) (by first | exact pxE0 | exact passes_call (takes_of rfl rfl rfl rfl) fun _ _ _ _ h => h)) (de_meth0 (de_var 1) C_Pool_steps (hr.mono (by omega)) (by first | exact pxE0 | exact passes_call (takes_of rfl rfl rfl rfl) fun _ _ _ _ h => h)) (nomark _)) (dw_or1 (db_cmp (or_neX hu0 hu64) op2_neX (de_meth0 (de_var 2) C_Pool_unfinished (hr.mono (by omega)) (by first | exact pxE0 | exact passes_call (takes_of rfl rfl rfl rfl) fun _ _ _ _ h => h)) (de_meth0 (de_var 1) C_Pool_unfinished (hr.mono (by omega)) (by first | exact pxE0 | exact passes_call (takes_of rfl rfl rfl rfl) fun _ _ _ _ h => h)) (nomark _)))))
  (dss_one (ds_ret de_str))
  dss_nil)
  (dss_cons (ds_expr (de_call C_Lsome_calls (hr.mono (by omega)) (by first | exact pxE0 | exact passes_call (takes_of rfl rfl rfl rfl) fun _ _ _ _ h => h) rfl (da_cons (de_var 0) (da_cons (de_var 2) (da_cons de_int da_nil)))))
  (dss_cons (ds_if (DW.db (dw_and (db_cmp op_gt op2_I (de_var 3) de_int (nomark _)) (dw_and1 (db_not (db_tru (de_call R_Ltrial_right (hr.mono (by omega)) (by first | exact pxE0 | exact passes_call (takes_of rfl rfl rfl rfl) fun _ _ _ _ h => h) rfl (da_cons (de_var 0) (da_cons (de_var 2) (da_cons (de_sub (de_var 3) de_int) da_nil)))))))))
  (dss_one (ds_ret de_str))
  dss_nil)
  (dss_cons (ds_set 4 nd (de_call C_Ldraw (hr.mono (by omega)) (by first | exact pxE0 | exact passes_call (takes_of rfl rfl rfl rfl) fun _ _ _ _ h => h) rfl (da_cons (de_var 0) (da_cons de_int da_nil))))
  (dss_cons (ds_if (db_cmp (op_eqD hu64) op2_eq (de_var 4) de_int (nomark _))
  (dss_one (ds_raiseK rfl (takes_of rfl rfl rfl rfl) rfl T.f_KeyError))
  dss_nil)
  (dss_cons (ds_if (db_cmp (op_eqD hu64) op2_eq (de_var 4) de_int (nomark _))
  (dss_one (ds_raise0 Z_NothingToUndo rfl (takes_of rfl rfl rfl rfl) (hr.mono (by omega)) pxE0 rfl))
  dss_nil)
  (dss_one (ds_ret (de_tup (da_cons de_str (da_cons (de_meth0 (de_var 2) C_Pool_steps (hr.mono (by omega)) (by first | exact pxE0 | exact passes_call (takes_of rfl rfl rfl rfl) fun _ _ _ _ h => h)) da_nil)))))))))))
abbrev N_BadSize_init : List Str := ["self", "value"]
theorem sc_BadSize_init : FnScope N_BadSize_init ["self", "value"] (defScope s_BadSize_init) := ⟨rfl, rfl, rfl, by decide +kernel, rfl, by decide +kernel, by decide +kernel⟩
theorem e_BadSize {x qual : Str} {dvs : List V} {kws : List (Str × V)} {fd : FuncData} (T : Txt K mg) (F : FunD K x qual (defArgs s_BadSize_init) (defBody s_BadSize_init) (defScope s_BadSize_init) dvs kws f fd) : FnOk P w K mg base (L2.CX P w) 1 f fd ["self", "value"] (spE K "value") :=
  fn_init F sc_BadSize_init (fun _ _ _ _ _ _ => ps_expr (pe_peinit (err_pe T.err) rfl T.g_PermitError (pa_cons (pe_var (i := 0) rfl (.inl rfl)) (pa_cons pe_str pa_nil)))) (fun _ _ _ _ _ _ => ps_ost (pe_var (i := 0) rfl (.inl rfl)) (pe_var (i := 1) rfl (.inl rfl)))
abbrev N_check_size : List Str := ["size"]
theorem sc_check_size : FnScope N_check_size ["size"] (defScope s_check_size) := ⟨rfl, rfl, rfl, by decide +kernel, rfl, by decide +kernel, by decide +kernel⟩
noncomputable def g_check_size : GS := (sIf (bNot (gTru (gCall 3 m_is_between (aCons (gVar 0) (aCons (gC (.int 0)) (aCons (gC (.int 1000000000000000000000000000000)) aNil))))))
  (sRaise "BadSize" "value" (gVar 0))
  sNext)
noncomputable def m_check_size : FM := runF exitF 1 g_check_size
theorem w_check_size (T : Txt K mg) (C_is_between : Cal P w K mg base (L2.CX P w) 2 "is_between" 3 m_is_between) (E_BadSize : CalE P w K mg base (L2.CX P w) 1 "BadSize" "value") : Walks2 (L2.CX P w) P w K mg base 2 N_check_size "check_size" (defScope s_check_size) f (defBody s_check_size) g_check_size := by
  intro cdv A outer s H E hr
  have nd := sc_check_size.nd
  exact (dss_one (ds_if (db_not (db_tru (de_call C_is_between (hr.mono (by decide)) (by first | exact pxE0 | exact passes_call (takes_of rfl rfl rfl rfl) fun _ _ _ _ h => h) rfl (da_cons (de_var 0) (da_cons de_int (da_cons (de_globI rfl T.c_MOST_SIZE) da_nil))))))
  (dss_one (ds_raise E_BadSize rfl (takes_of rfl rfl rfl rfl) (hr.mono (by decide)) pxE0 rfl (de_var 0)))
  dss_nil))
abbrev N_Pool_init : List Str := ["self", "size", "careful"]
theorem sc_Pool_init : FnScope N_Pool_init ["self", "size", "careful"] (defScope s_Pool_init) := ⟨rfl, rfl, rfl, by decide +kernel, rfl, by decide +kernel, by decide +kernel⟩
noncomputable def g_Pool_init : GS := (sSeq (sExpr (gCall 1 m_check_size (aCons (gVar 1) aNil)))
  (sSeq (sAsg (gVar 1) (nFld "Pool" "whole" (gVar 0)))
  (sSeq (sAsg (gVar 2) (nFld "Pool" "is_careful" (gVar 0)))
  (sSeq (sAsg (gTup (aCons (gC (.int 0)) (aCons (gTup aNil) aNil))) (nFld "Pool" "present" (gVar 0)))
  (sAsg (gLstM aNil) (nFld "Pool" "past" (gVar 0)))))))
noncomputable def m_Pool_init : FM := runF exitK 3 g_Pool_init
theorem w_Pool_init (T : Txt K mg) (C_check_size : Cal P w K mg base (L2.CX P w) 3 "check_size" 1 m_check_size) : Walks2 (L2.CX P w) P w K mg base 3 N_Pool_init "Pool.__init__" (defScope s_Pool_init) f (defBody s_Pool_init) g_Pool_init := by
  intro cdv A outer s H E hr
  have nd := sc_Pool_init.nd
  exact (dss_cons (ds_expr (de_call C_check_size (hr.mono (by decide)) (by first | exact pxE0 | exact passes_call (takes_of rfl rfl rfl rfl) fun _ _ _ _ h => h) rfl (da_cons (de_var 1) da_nil)))
  (dss_cons (ds_asg (de_var 1) (dg_fld "Pool" (de_var 0) T.k_Pool T.n_Pool_whole))
  (dss_cons (ds_asg (de_var 2) (dg_fld "Pool" (de_var 0) T.k_Pool T.n_Pool_is_careful))
  (dss_cons (ds_asg (de_tup (da_cons de_int (da_cons (de_tup da_nil) da_nil))) (dg_fld "Pool" (de_var 0) T.k_Pool T.n_Pool_present))
  (dss_one (ds_asg (de_lstM da_nil) (dg_fld "Pool" (de_var 0) T.k_Pool T.n_Pool_past)))))))
abbrev N_Pool_copy : List Str := ["self", "found"]
theorem sc_Pool_copy : FnScope N_Pool_copy ["self"] (defScope s_Pool_copy) := ⟨rfl, rfl, rfl, by decide +kernel, rfl, by decide +kernel, by decide +kernel⟩
noncomputable def g_Pool_copy : GS := (sSeq (sAsg (gMakeMK "Pool" 1 1 [0, 1, 2] m_Pool_init (aCons (gFld "Pool" "whole" (gVar 0)) aNil) (aCons (gFld "Pool" "is_careful" (gVar 0)) aNil)) (nName 1))
  (sSeq (sAsg (gFld "Pool" "present" (gVar 0)) (nFld "Pool" "present" (gVar 1)))
  (sSeq (sAsg (gB bListM (aCons (gFld "Pool" "past" (gVar 0)) aNil)) (nFld "Pool" "past" (gVar 1)))
  (sRet (gVar 1)))))
noncomputable def m_Pool_copy : FM := runF exitK 2 g_Pool_copy
theorem w_Pool_copy (T : Txt K mg) (J_Pool : CalIK P w K mg base (L2.CX P w) 4 "Pool" 1 ["careful"] [0, 1, 2] m_Pool_init) : Walks2 (L2.CX P w) P w K mg base 5 N_Pool_copy "Pool.copy" (defScope s_Pool_copy) f (defBody s_Pool_copy) g_Pool_copy := by
  intro cdv A outer s H E hr
  have nd := sc_Pool_copy.nd
  exact (dss_cons (ds_set 1 nd (de_makeMK J_Pool (hr.mono (by decide)) (by first | exact pxE0 | exact passes_call (takes_of rfl rfl rfl rfl) fun _ _ _ _ h => h) rfl (da_cons (de_fld "Pool" (de_var 0) T.k_Pool T.n_Pool_whole) da_nil) (dk_cons (de_fld "Pool" (de_var 0) T.k_Pool T.n_Pool_is_careful) dk_nil)))
  (dss_cons (ds_asg (de_fld "Pool" (de_var 0) T.k_Pool T.n_Pool_present) (dg_fld "Pool" (de_var 1) T.k_Pool T.n_Pool_present))
  (dss_cons (ds_asg (de_bT call_list_of on_listM rfl T.f_list bt_list (da_cons (de_fld "Pool" (de_var 0) T.k_Pool T.n_Pool_past) da_nil)) (dg_fld "Pool" (de_var 1) T.k_Pool T.n_Pool_past))
  (dss_one (ds_ret (de_var 1))))))
abbrev N_Pool_started : List Str := ["self", "one"]
theorem sc_Pool_started : FnScope N_Pool_started ["self"] (defScope s_Pool_started) := ⟨rfl, rfl, rfl, by decide +kernel, rfl, by decide +kernel, by decide +kernel⟩
noncomputable def g_Pool_started : GS := (sRet (gLc (iSeq (gBin oIx (gFld "Pool" "present" (gVar 0)) (gC (.int 1)))) (nName 1) (gAs (gBin oGt (gBin oIx (gVar 1) (gC (.int 2))) (gC (.int 0)))) (gVar 1) [1]))
noncomputable def m_Pool_started : FM := runF exitF 2 g_Pool_started
theorem w_Pool_started (T : Txt K mg)  : Walks2 (L2.CX P w) P w K mg base 0 N_Pool_started "Pool.started" (defScope s_Pool_started) f (defBody s_Pool_started) g_Pool_started := by
  intro cdv A outer s H E hr
  have nd := sc_Pool_started.nd
  have hu1 := hu_of hr
  exact (dss_one (ds_ret (de_lc [(("one" : Str), 1)] [1] rfl nd (di_seq (de_ix hu1 (de_fld "Pool" (de_var 0) T.k_Pool T.n_Pool_present) de_int)) (blkOk_by (show blkC N_Pool_started (defScope s_Pool_started) _ _ = true from by decide +kernel)) (fun _ _ _ _ _ => (dg_name 1 nd)) (fun _ _ _ _ _ => (pts_b (db_cmp op_gt op2_I (de_ix hu1 (de_var 1) de_int) de_int (nomark _)))) (fun _ _ _ _ _ => (de_var 1)))))
abbrev N_Pool_lost : List Str := ["self"]
theorem sc_Pool_lost : FnScope N_Pool_lost ["self"] (defScope s_Pool_lost) := ⟨rfl, rfl, rfl, by decide +kernel, rfl, by decide +kernel, by decide +kernel⟩
noncomputable def g_Pool_lost : GS := (sRet (gCall 2 m_lost_among (aCons (gNoX (gProp "Pool" m_Pool_free (gVar 0))) (aCons (gMeth "Pool" "started" 1 m_Pool_started (gVar 0) aNil) aNil))))
noncomputable def m_Pool_lost : FM := runF exitF 1 g_Pool_lost
theorem w_Pool_lost (T : Txt K mg) (C_lost_among : Cal P w K mg base (L2.CX P w) 1 "lost_among" 2 m_lost_among) (P_Pool_free : CalP P w K mg base (L2.CX P w) 1 "Pool" "free" m_Pool_free) (C_Pool_started : CalM P w K mg base (L2.CX P w) 1 "Pool" "started" 1 m_Pool_started) : Walks2 (L2.CX P w) P w K mg base 2 N_Pool_lost "Pool.lost" (defScope s_Pool_lost) f (defBody s_Pool_lost) g_Pool_lost := by
  intro cdv A outer s H E hr
  have nd := sc_Pool_lost.nd
  exact (dss_one (ds_ret (de_call C_lost_among (hr.mono (by decide)) (by first | exact pxE0 | exact passes_call (takes_of rfl rfl rfl rfl) fun _ _ _ _ h => h) rfl (da_cons (de_propN (fun _ => (de_var 0)) P_Pool_free (hr.mono (by decide)) pxE0) (da_cons (de_meth0 (de_var 0) C_Pool_started (hr.mono (by decide)) (by first | exact pxE0 | exact passes_call (takes_of rfl rfl rfl rfl) fun _ _ _ _ h => h)) da_nil)))))
abbrev N_Pool_len : List Str := ["self"]
theorem sc_Pool_len : FnScope N_Pool_len ["self"] (defScope s_Pool_len) := ⟨rfl, rfl, rfl, by decide +kernel, rfl, by decide +kernel, by decide +kernel⟩
noncomputable def g_Pool_len : GS := (sRet (gB bLen (aCons (gBin oIx (gFld "Pool" "present" (gVar 0)) (gC (.int 1))) aNil)))
noncomputable def m_Pool_len : FM := runF exitF 1 g_Pool_len
theorem w_Pool_len (T : Txt K mg)  : Walks2 (L2.CX P w) P w K mg base 0 N_Pool_len "Pool.__len__" (defScope s_Pool_len) f (defBody s_Pool_len) g_Pool_len := by
  intro cdv A outer s H E hr
  have nd := sc_Pool_len.nd
  have hu1 := hu_of hr
  exact (dss_one (ds_ret (de_b call_len on_len rfl T.f_len bt_len (da_cons (de_ix hu1 (de_fld "Pool" (de_var 0) T.k_Pool T.n_Pool_present) de_int) da_nil))))
abbrev N_Lseen : List Str := ["_law_basin", "_law_twin", "_law_found"]
theorem sc_Lseen : FnScope N_Lseen ["_law_basin"] (defScope s_Lseen) := ⟨rfl, rfl, rfl, by decide +kernel, rfl, by decide +kernel, by decide +kernel⟩
noncomputable def g_Lseen : GS := (sSeq (sPar 1 2 (aCons (gMeth "Pool" "copy" 1 m_Pool_copy (gVar 0) aNil) (aCons (gLstM (aCons (gTup (aCons (gMeth "Pool" "unfinished" 1 m_Pool_unfinished (gVar 0) aNil) (aCons (gNoX (gProp "Pool" m_Pool_free (gVar 0))) (aCons (gMeth "Pool" "steps" 1 m_Pool_steps (gVar 0) aNil) (aCons (gMeth "Pool" "lost" 1 m_Pool_lost (gVar 0) aNil) (aCons (gNoX (gB (bLenO "Pool" m_Pool_len) (aCons (gVar 0) aNil))) aNil)))))) aNil)) aNil)))
  (sSeq (sWhile (gAs (gBin oGt (gMeth "Pool" "steps" 1 m_Pool_steps (gVar 1) aNil) (gC (.int 0))))
  (sSeq (sExpr (gMeth "Pool" "undo" 1 m_Pool_undo (gVar 1) aNil))
  (sExpr (gBM "list" mAppend (gVar 2) (aCons (gTup (aCons (gMeth "Pool" "unfinished" 1 m_Pool_unfinished (gVar 1) aNil) (aCons (gNoX (gProp "Pool" m_Pool_free (gVar 1))) aNil))) aNil)))))
  (sRet (gVar 2))))
noncomputable def m_Lseen : FM := runF exitF 3 g_Lseen
theorem w_Lseen (T : Txt K mg) (P_Pool_free : CalP P w K mg base (L2.CX P w) 1 "Pool" "free" m_Pool_free) (C_Pool_len : CalM P w K mg base (L2.CX P w) 1 "Pool" "__len__" 1 m_Pool_len) (C_Pool_copy : CalM P w K mg base (L2.CX P w) 6 "Pool" "copy" 1 m_Pool_copy) (C_Pool_unfinished : CalM P w K mg base (L2.CX P w) 1 "Pool" "unfinished" 1 m_Pool_unfinished) (C_Pool_steps : CalM P w K mg base (L2.CX P w) 1 "Pool" "steps" 1 m_Pool_steps) (C_Pool_lost : CalM P w K mg base (L2.CX P w) 3 "Pool" "lost" 1 m_Pool_lost) (C_Pool_undo : CalM P w K mg base (L2.CX P w) 3 "Pool" "undo" 1 m_Pool_undo) : Walks2 (L2.CX P w) P w K mg base 6 N_Lseen "_law_seen" (defScope s_Lseen) f (defBody s_Lseen) g_Lseen := by
  intro cdv A outer s H E hr
  have nd := sc_Lseen.nd
  have po : PassesOwn (model P w) _ _ (cxOf (L2.CX P w) P w K mg base N_Lseen "_law_seen" (defScope s_Lseen) f cdv A outer s H E).xe := passes_of rfl
  exact (dss_cons (ds_par rfl nd (da_cons (de_meth0 (de_var 0) C_Pool_copy (hr.mono (by decide)) (by first | exact pxE0 | exact passes_call (takes_of rfl rfl rfl rfl) fun _ _ _ _ h => h)) (da_cons (de_lstM (da_cons (de_tup (da_cons (de_meth0 (de_var 0) C_Pool_unfinished (hr.mono (by decide)) (by first | exact pxE0 | exact passes_call (takes_of rfl rfl rfl rfl) fun _ _ _ _ h => h)) (da_cons (de_propN (fun _ => (de_var 0)) P_Pool_free (hr.mono (by decide)) pxE0) (da_cons (de_meth0 (de_var 0) C_Pool_steps (hr.mono (by decide)) (by first | exact pxE0 | exact passes_call (takes_of rfl rfl rfl rfl) fun _ _ _ _ h => h)) (da_cons (de_meth0 (de_var 0) C_Pool_lost (hr.mono (by decide)) (by first | exact pxE0 | exact passes_call (takes_of rfl rfl rfl rfl) fun _ _ _ _ h => h)) (da_cons (de_lenN (fun _ => (de_var 0)) C_Pool_len (hr.mono (by decide)) pxE0 rfl T.f_len bt_len) da_nil)))))) da_nil)) da_nil)))
  (dss_cons (ds_while po (db_cmp op_gt op2_I (de_meth0 (de_var 1) C_Pool_steps (hr.mono (by decide)) (by first | exact pxE0 | exact passes_call (takes_of rfl rfl rfl rfl) fun _ _ _ _ h => h)) de_int (nomark _))
  (dss_cons (ds_expr (de_meth0 (de_var 1) C_Pool_undo (hr.mono (by decide)) (by first | exact pxE0 | exact passes_call (takes_of rfl rfl rfl rfl) fun _ _ _ _ h => h)))
  (dss_one (ds_expr (de_bm PySem.F.plainAttrs_list PySem.F.slot_list_append PySem.F.type_list_append mt_append om_append (de_var 2) (da_cons (de_tup (da_cons (de_meth0 (de_var 1) C_Pool_unfinished (hr.mono (by decide)) (by first | exact pxE0 | exact passes_call (takes_of rfl rfl rfl rfl) fun _ _ _ _ h => h)) (da_cons (de_propN (fun _ => (de_var 1)) P_Pool_free (hr.mono (by decide)) pxE0) da_nil))) da_nil))))))
  (dss_one (ds_ret (de_var 2)))))
abbrev N_Ltrial_right : List Str := ["_law_source", "_law_basin", "_law_depth", "_law_before", "_law_told"]
theorem sc_Ltrial_right : FnScope N_Ltrial_right ["_law_source", "_law_basin", "_law_depth"] (defScope s_Ltrial_right) := ⟨rfl, rfl, rfl, by decide +kernel, rfl, by decide +kernel, by decide +kernel⟩
noncomputable def g_Ltrial_right (A : FM) : GS := (sSeq (sPar 3 4 (aCons (gCall 1 m_Lseen (aCons (gVar 1) aNil)) (aCons (gTup (aCons (gC (.str "told")) (aCons (gC (.int 0)) aNil))) aNil)))
  (sSeq (sTryK keE (subL errK) (sAsg (gTup (aCons (gC (.str "told")) (aCons (gC (.int 0)) aNil))) (nName 4)) (("NothingToUndo", none, (sAsg (gTup (aCons (gC (.str "told")) (aCons (gC (.int 0)) aNil))) (nName 4))) :: []) (sAsg (gReh 0 (("_law_trial_right.<locals>.<lambda>" : Str), (("_law_trial_right" : Str), (none : Option Str))) m_rehearsed (gVar 1) (gCall 4 A (aCons (gVar 0) (aCons (gVar 1) (aCons (gVar 5) (aCons (gVar 2) aNil)))))) (nName 4)))
  (sRet (gAnd (gBin (oEqS false) (gBin oIx (gVar 4) (gC (.int 0))) (gC (.str "told"))) (gBin (oEq false) (gCall 1 m_Lseen (aCons (gVar 1) aNil)) (gVar 3))))))
noncomputable def mr_Ltrial_right : Nat → FM
  | 0 => runF exitK 5 sBad
  | n + 1 => runF exitK 5 (g_Ltrial_right (runF exitK 5 (g_Laction (mr_Ltrial_right n))))
noncomputable def m_Ltrial_right : FM := mr_Ltrial_right 4
theorem w_Ltrial_right (n : Nat) {Am : FM} (T : Txt K mg) (C_Lseen : Cal P w K mg base (L2.CX P w) 7 "_law_seen" 1 m_Lseen) (TB : LamX.TabB base mg (He.cT K (("_law_trial_right" : Str), (none : Option Str))).1 (He.cT K (("_law_trial_right" : Str), (none : Option Str))).2) (T_rehearsed : CalR P w K mg base 2 "rehearsed" m_rehearsed) (CA_Laction : Cal P w K mg base (L2.CX P w) (9 + 4 * n + 1) "_law_action" 4 Am) : WalksC2 (L2.CX P w) P w K mg base (9 + 4 * n + 3) N_Ltrial_right "_law_trial_right" (defScope s_Ltrial_right) (He.fAd K (("_law_trial_right" : Str), (none : Option Str))) (.ref (He.cT K (("_law_trial_right" : Str), (none : Option Str))).1) (defBody s_Ltrial_right) (g_Ltrial_right Am) := by
  intro A outer s H E hr
  have nd := sc_Ltrial_right.nd
  have hu1 := hu_of hr
  have hu64 := hr.units
  exact (dss_cons (ds_par rfl nd (da_cons (de_call C_Lseen (hr.mono (by omega)) (by first | exact pxE0 | exact passes_call (takes_of rfl rfl rfl rfl) fun _ _ _ _ h => h) rfl (da_cons (de_var 1) da_nil)) (da_cons (de_tup (da_cons de_str (da_cons de_int da_nil))) da_nil)))
  (dss_cons (ds_tryK rfl rfl nd (takes_of rfl rfl rfl rfl) (fun _ _ _ hp1 _ => (dss_oneσ (ds_setσ 4 nd (de_rehσ (dd := (("_law_trial_right" : Str), (none : Option Str))) (k := (9 + 4 * n + 1)) (z := "_law_held") (T_rehearsed.mono (by omega)) rfl TB rfl (by with_unfolding_all rfl) (hr.mono (by omega)) (LamX.lamS1_by (show LamX.lamS1B "_law_held" (defScope s_Ltrial_right) _ = true from by decide +kernel)) (show ("_law_held" : Str) ∉ N_Ltrial_right from by decide) rfl (fun _ _ _ _ _ _ => rfl) hp1 (fun _ => (de_var 1)) (fun _ _ _ _ _ _ _ hr2 => (de_call CA_Laction (hr2.mono (by omega)) (by first | exact pxE0 | exact passes_call (takes_of rfl rfl rfl rfl) fun _ _ _ _ h => h) rfl (da_cons (de_var 0) (da_cons (de_var 1) (da_cons (de_var 5) (da_cons (de_var 2) da_nil)))))))))) rfl T.f_KeyError T.noke (fun _ _ => (dss_one (ds_set 4 nd (de_tup (da_cons de_str (da_cons de_int da_nil))))))
  (.consN ⟨rfl, by decide, .inl T.g_NothingToUndo⟩ (err_exm T.err "NothingToUndo") (fun _ _ => (dss_one (ds_set 4 nd (de_tup (da_cons de_str (da_cons de_int da_nil)))))) .nil))
  (dss_one (ds_ret (de_and (de_cmp op_eq op2_eqS (de_ix hu1 (de_var 4) de_int) de_str (nomark _)) (de_one (de_cmp (op_eqD hu64) op2_eq (de_call C_Lseen (hr.mono (by omega)) (by first | exact pxE0 | exact passes_call (takes_of rfl rfl rfl rfl) fun _ _ _ _ h => h) rfl (da_cons (de_var 1) da_nil)) (de_var 3) (nomark _))))))))
abbrev N_Lright : List Str := ["_law_source", "_law_basin", "_law_turn", "_law_added"]
theorem sc_Lright : FnScope N_Lright ["_law_source"] (defScope s_Lright) := ⟨rfl, rfl, rfl, by decide +kernel, rfl, by decide +kernel, by decide +kernel⟩
noncomputable def g_Lright : GS := (sSeq (sAsg (gMakeMK "Pool" 1 1 [0, 1, 2] m_Pool_init (aCons (gCall 2 m_Ldraw (aCons (gVar 0) (aCons (gC (.int 31)) aNil))) aNil) (aCons (gBin (oEq false) (gCall 2 m_Ldraw (aCons (gVar 0) (aCons (gC (.int 2)) aNil))) (gC (.int 0))) aNil)) (nName 1))
  (sSeq (sFor (iRange1 (gC (.int 4))) (nName 2)
  (sSeq (sExpr (gCall 3 m_Lsome_calls (aCons (gVar 0) (aCons (gVar 1) (aCons (gC (.int 10)) aNil)))))
  (sIf (bNot (gTru (gCall 3 m_Ltrial_right (aCons (gVar 0) (aCons (gVar 1) (aCons (gCall 2 m_Ldraw (aCons (gVar 0) (aCons (gC (.int 3)) aNil))) aNil))))))
  (sRet (gC (.bl false)))
  sNext)))
  (sSeq (sAsg (gReh 1 (("_law_right.<locals>.<lambda>" : Str), (("_law_right" : Str), (none : Option Str))) m_rehearsed (gVar 1) (gMeth "Pool" "begin" 2 m_Pool_begin (gVar 4) (aCons (gTup (aCons (gC (.int 1)) aNil)) aNil))) (nName 3))
  (sRet (gBin (oEqS false) (gB bReprX (aCons (gMeth "Pool" "begin" 2 m_Pool_begin (gVar 1) (aCons (gTup (aCons (gC (.int 1)) aNil)) aNil)) aNil)) (gB bReprX (aCons (gVar 3) aNil)))))))
noncomputable def m_Lright : FM := runF exitF 4 g_Lright
theorem w_Lright (T : Txt K mg) (C_Ldraw : Cal P w K mg base (L2.CX P w) 1 "_law_draw" 2 m_Ldraw) (C_Lsome_calls : Cal P w K mg base (L2.CX P w) 6 "_law_some_calls" 3 m_Lsome_calls) (C_Ltrial_right : Cal P w K mg base (L2.CX P w) 25 "_law_trial_right" 3 m_Ltrial_right) (J_Pool : CalIK P w K mg base (L2.CX P w) 4 "Pool" 1 ["careful"] [0, 1, 2] m_Pool_init) (C_Pool_begin : CalM P w K mg base (L2.CX P w) 5 "Pool" "begin" 2 m_Pool_begin) (TB : LamX.TabB base mg (He.cT K (("_law_right" : Str), (none : Option Str))).1 (He.cT K (("_law_right" : Str), (none : Option Str))).2) (T_rehearsed : CalR P w K mg base 2 "rehearsed" m_rehearsed) : WalksC (L2.CX P w) P w K mg base 25 N_Lright "_law_right" (defScope s_Lright) (He.fAd K (("_law_right" : Str), (none : Option Str))) (.ref (He.cT K (("_law_right" : Str), (none : Option Str))).1) (defBody s_Lright) g_Lright := by
  intro A outer s H E hr hG0
  have cdv : Value := .ref (He.cT K (("_law_right" : Str), (none : Option Str))).1
  have nd := sc_Lright.nd
  have hu64 := hr.units
  have hG : (A.deeper (envOfC "_law_right" (defScope s_Lright) s.heap.objs.size (He.fAd K (("_law_right" : Str), (none : Option Str))) (.ref (He.cT K (("_law_right" : Str), (none : Option Str))).1))).guards = some [] := hG0
  have po : PassesOwn (model P w) _ _ (cxOf (L2.CX P w) P w K mg base N_Lright "_law_right" (defScope s_Lright) (He.fAd K (("_law_right" : Str), (none : Option Str))) (.ref (He.cT K (("_law_right" : Str), (none : Option Str))).1) A outer s H E).xe := passes_of rfl
  exact (dss_cons (ds_set 1 nd (de_makeMK J_Pool (hr.mono (by decide)) (by first | exact pxE0 | exact passes_call (takes_of rfl rfl rfl rfl) fun _ _ _ _ h => h) rfl (da_cons (de_call C_Ldraw (hr.mono (by decide)) (by first | exact pxE0 | exact passes_call (takes_of rfl rfl rfl rfl) fun _ _ _ _ h => h) rfl (da_cons (de_var 0) (da_cons de_int da_nil))) da_nil) (dk_cons (de_cmp (op_eqD hu64) op2_eq (de_call C_Ldraw (hr.mono (by decide)) (by first | exact pxE0 | exact passes_call (takes_of rfl rfl rfl rfl) fun _ _ _ _ h => h) rfl (da_cons (de_var 0) (da_cons de_int da_nil))) de_int (nomark _)) dk_nil)))
  (dss_cons (ds_for po rfl (di_range1 rfl T.f_range de_int) (dg_name 2 nd)
  (dss_cons (ds_expr (de_call C_Lsome_calls (hr.mono (by decide)) (by first | exact pxE0 | exact passes_call (takes_of rfl rfl rfl rfl) fun _ _ _ _ h => h) rfl (da_cons (de_var 0) (da_cons (de_var 1) (da_cons de_int da_nil)))))
  (dss_one (ds_if (db_not (db_tru (de_call C_Ltrial_right (hr.mono (by decide)) (by first | exact pxE0 | exact passes_call (takes_of rfl rfl rfl rfl) fun _ _ _ _ h => h) rfl (da_cons (de_var 0) (da_cons (de_var 1) (da_cons (de_call C_Ldraw (hr.mono (by decide)) (by first | exact pxE0 | exact passes_call (takes_of rfl rfl rfl rfl) fun _ _ _ _ h => h) rfl (da_cons (de_var 0) (da_cons de_int da_nil))) da_nil))))))
  (dss_one (ds_ret de_bl))
  dss_nil))))
  (dss_cons (ds_set 3 nd (de_rehK (dd := (("_law_right" : Str), (none : Option Str))) (k := (5)) (z := "_law_held") (i := 1) (T_rehearsed.mono (by decide)) rfl TB rfl (by with_unfolding_all rfl) (hr.mono (by decide)) (LamX.lamS1_by (show LamX.lamS1B "_law_held" (defScope s_Lright) _ = true from by decide +kernel)) (show ("_law_held" : Str) ∉ N_Lright from by decide) rfl (fun _ _ _ _ _ _ => rfl) (by first | exact pxE0 | exact passes_call (takes_of rfl rfl rfl rfl) fun _ _ _ _ h => h) rfl (.inl rfl) (fun _ _ _ _ _ _ _ hr2 => (de_meth (de_var 4) C_Pool_begin (hr2.mono (by decide)) (by first | exact pxE0 | exact passes_call (takes_of rfl rfl rfl rfl) fun _ _ _ _ h => h) (da_cons (de_tup (da_cons de_int da_nil)) da_nil)))))
  (dss_one (ds_ret (de_cmp op_eq op2_eqS (de_b (cr_reprX hG hu64) on_reprX rfl T.f_repr bt_repr (da_cons (de_meth (de_var 1) C_Pool_begin (hr.mono (by decide)) (by first | exact pxE0 | exact passes_call (takes_of rfl rfl rfl rfl) fun _ _ _ _ h => h) (da_cons (de_tup (da_cons de_int da_nil)) da_nil)) da_nil)) (de_b (cr_reprX hG hu64) on_reprX rfl T.f_repr bt_repr (da_cons (de_var 3) da_nil)) (nomark _)))))))
abbrev N_law : List Str := ["_law_script", "_law_k", "_law_source", "_law_turn"]
theorem sc_law : FnScope N_law ["_law_script"] (defScope s_law) := ⟨rfl, rfl, rfl, by decide +kernel, rfl, by decide +kernel, by decide +kernel⟩
noncomputable def g_law : GS := (sSeq (sFor (iRange1 (gB bMax2 (aCons (gC (.int 1)) (aCons (gB bMin2 (aCons (gC (.int 3)) (aCons (gB bLen (aCons (gVar 0) aNil)) aNil))) aNil)))) (nName 1)
  (sTrim (sSeq (sAsg (gCall 2 m_Lstart (aCons (gVar 0) (aCons (gVar 1) aNil))) (nName 2))
  (sIf (bNot (gTru (gB bAll (aCons (gLc (iRange1 (gC (.int 2))) (nName 3) cYes (gCall 1 m_Lright (aCons (gVar 2) aNil)) [3]) aNil))))
  (sRet (gC (.bl false)))
  sNext))))
  (sRet (gC (.bl true))))
noncomputable def m_law : FM := runF exitF 4 (sNoxS g_law)
theorem w_law (T : Txt K mg) (C_Lstart : Cal P w K mg base (L2.CX P w) 1 "_law_start" 2 m_Lstart) (C_Lright : CalG P w K mg base (L2.CX P w) 26 "_law_right" 1 m_Lright) : Walks3 CX0 P w K mg base 26 N_law "law" (defScope s_law) f (defBody s_law) (sNoxS g_law) := by
  intro cdv A outer s H E hr hG0
  have nd := sc_law.nd
  have hG : (A.deeper (envOfC "law" (defScope s_law) s.heap.objs.size f cdv)).guards = some [] := hG0
  have po : PassesOwn (model P w) _ _ (cxOf CX0 P w K mg base N_law "law" (defScope s_law) f cdv A outer s H E).xe := passes_of rfl
  exact dss_noxS (dss_cons (ds_for po rfl (di_range1 rfl T.f_range (de_b (call_max2 rfl) on_max2 rfl T.f_max bt_max (da_cons de_int (da_cons (de_b (call_min2 rfl) on_min2 rfl T.f_min bt_min (da_cons de_int (da_cons (de_b call_len on_len rfl T.f_len bt_len (da_cons (de_var 0) da_nil)) da_nil))) da_nil)))) (dg_name 1 nd)
  (dss_trim (dss_cons (ds_set 2 nd (de_call C_Lstart (hr.mono (by decide)) pxE0 rfl (da_cons (de_var 0) (da_cons (de_var 1) da_nil))))
  (dss_one (ds_if (db_not (db_tru (de_b (cr_all rfl) on_all rfl T.f_all bt_all (da_cons (de_lc [(("_law_turn" : Str), 3)] [3] rfl nd (di_range1 rfl T.f_range de_int) (blkOk_by (show blkC N_law (defScope s_law) _ _ = true from by decide +kernel)) (fun _ _ _ _ _ => (dg_name 3 nd)) (fun _ _ _ _ _ => pts_y) (fun _ _ _ _ _ => (de_callG C_Lright hG (hr.mono (by decide)) pxE0 rfl (da_cons (de_var 2) da_nil)))) da_nil))))
  (dss_one (ds_ret de_bl))
  dss_nil)))))
  (dss_one (ds_ret de_bl)))
end
end Wk
namespace Wk
open PySem PySem.Spec L2 L3
open PyProof.Rows hiding St
theorem eq_of_sat' {o : Out D} {x : D} {m : Sto} (h : o.sat fun d m' => d = x ∧ m' = m) : o = .ok x m := by
  obtain ⟨d, m1, e, rfl, rfl⟩ := h.ex
  exact e
theorem lc_mapA {α : Type} {gi : GI} {t : GT} {c : GB} {g : GE} {vs : List Nat} {en : Sl} {m : Sto} {src : Src} {l : List α} (mk : α → D) (p : α → Bool) (f : α → D) (hi : gi en m = .ok src m) (hs : src.items = l.map mk) (hok : src.ok m = true) (hl : l.length ≤ sizeLine)
    (step : ∀ x ∈ l, (t (mk x) (wipeE en vs) m).sat fun en1 m1 => m1 = m ∧ (c en1 m).sat fun k m2 => m2 = m ∧ k = p x ∧ (p x = true → (g en1 m).sat fun y m3 => m3 = m ∧ y = f x)) : gLc gi t c g vs en m = .ok (.lst ((l.filter p).map f)) m := by
  refine eq_of_sat' ?_
  refine lc_sat (fun s i acc m' => s = src ∧ m' = m ∧ acc = ((l.take i).filter p).map f) (sat_of hi ⟨?_, ⟨rfl, rfl, rfl⟩, ?_, ?_⟩)
  · rintro i acc m' ⟨_, e, _⟩
    rw [e]
    exact hok
  · rintro i d acc m' hd ⟨_, rfl, rfl⟩
    rw [hs, List.getElem?_map] at hd
    obtain ⟨x, hx, rfl⟩ := Option.map_eq_some_iff.mp hd
    have hil := (List.getElem?_eq_some_iff.mp hx).1
    have ht : l.take (i + 1) = l.take i ++ [x] := by rw [List.take_succ, hx]; rfl
    refine (step x (List.mem_of_getElem? hx)).mono fun en1 m1 ⟨e, h1⟩ => ?_
    subst e
    refine h1.mono fun k m2 ⟨e, ek, h2⟩ => ?_
    subst e ek
    rw [ht, List.filter_append, List.map_append]
    by_cases hp : p x = true
    · rw [if_pos hp]
      refine (h2 hp).mono fun y m3 ⟨e, ey⟩ => ?_
      subst e ey
      refine ⟨?_, rfl, rfl, by simp [hp]⟩
      rw [List.length_map]
      have := List.length_filter_le p (l.take i)
      rw [List.length_take] at this
      omega
    · rw [if_neg hp]
      exact ⟨rfl, rfl, by simp [hp]⟩
  · rintro acc m' ⟨_, rfl, rfl⟩
    refine ⟨?_, rfl⟩
    rw [hs, List.length_map, List.take_length]
theorem filter_len {α : Type} (p : α → Bool) : ∀ l : List α, (l.filter p).length + (l.filter fun x => !p x).length = l.length
  | [] => rfl
  | x :: l => by
    have := filter_len p l
    rw [List.filter_cons, List.filter_cons]
    by_cases h : p x = true
    · rw [if_pos h, if_neg (by simp [h]), List.length_cons, List.length_cons]; omega
    · rw [if_neg h, if_pos (by simp [h]), List.length_cons, List.length_cons]; omega
theorem cut_lo {ds : List D} {j : Int} (h : 0 ≤ j) : L3.cutD ds (some j) none = ds.drop j.toNat := by
  unfold L3.cutD HT.sIx
  have e : ¬ (j < 0) := by omega
  simp only [e, if_false]
  rw [List.take_of_length_le (by simp), ]
  by_cases q : j.toNat ≤ ds.length
  · rw [Nat.min_eq_left q]
  · rw [Nat.min_eq_right (by omega), List.drop_of_length_le (by omega), List.drop_of_length_le (by omega)]
theorem cut_up {ds : List D} {j : Int} (h : 0 ≤ j) : L3.cutD ds none (some j) = ds.take j.toNat := by
  unfold L3.cutD HT.sIx
  have e : ¬ (j < 0) := by omega
  simp [e]
  try omega
end Wk
namespace Wk
open PySem PySem.Spec L2 L3
open PyProof.Rows hiding St
theorem sq_le {c B : Int} (h0 : 0 ≤ c) (h : c ≤ B) : 0 ≤ c * c ∧ c * c ≤ B * B := ⟨Int.mul_nonneg h0 h0, Int.mul_le_mul h h h0 (Int.le_trans h0 h)⟩
theorem prime_at {k : Int} {m : Sto} (h0 : 0 ≤ k) (h : k < 7) : ∃ p, oIx (.lst [.int 2147483647, .int 2147483629, .int 2147483587, .int 2147483579, .int 2147483563, .int 2147483549, .int 2147483543]) (.int k) m = .ok (.int p) m ∧ 0 < p ∧ p < 2147483648 := by
  have e : k = 0 ∨ k = 1 ∨ k = 2 ∨ k = 3 ∨ k = 4 ∨ k = 5 ∨ k = 6 := by omega
  rcases e with rfl | rfl | rfl | rfl | rfl | rfl | rfl
  · exact ⟨2147483647, rfl, by decide, by decide⟩
  · exact ⟨2147483629, rfl, by decide, by decide⟩
  · exact ⟨2147483587, rfl, by decide, by decide⟩
  · exact ⟨2147483579, rfl, by decide, by decide⟩
  · exact ⟨2147483563, rfl, by decide, by decide⟩
  · exact ⟨2147483549, rfl, by decide, by decide⟩
  · exact ⟨2147483543, rfl, by decide, by decide⟩
theorem srcT_0 {t0 t1 : MO} {x y z : D} {r : Sto} : oIx (.ref 2) (.int 0) (t0 :: t1 :: .lst [x, y, z] :: r) = .ok x (t0 :: t1 :: .lst [x, y, z] :: r) := rfl
theorem srcT_1 {t0 t1 : MO} {x y z : D} {r : Sto} : oIx (.ref 2) (.int 1) (t0 :: t1 :: .lst [x, y, z] :: r) = .ok y (t0 :: t1 :: .lst [x, y, z] :: r) := rfl
theorem srcT_2 {t0 t1 : MO} {x y z : D} {r : Sto} : oIx (.ref 2) (.int 2) (t0 :: t1 :: .lst [x, y, z] :: r) = .ok z (t0 :: t1 :: .lst [x, y, z] :: r) := rfl
theorem srcT_p0 {t0 t1 : MO} {x y z v : D} {r : Sto} : oPut (.ref 2) (.int 0) v (t0 :: t1 :: .lst [x, y, z] :: r) = some (t0 :: t1 :: .lst [v, y, z] :: r) := rfl
theorem srcT_p2 {t0 t1 : MO} {x y z v : D} {r : Sto} : oPut (.ref 2) (.int 2) v (t0 :: t1 :: .lst [x, y, z] :: r) = some (t0 :: t1 :: .lst [x, y, v] :: r) := rfl
structure SrcR (B : Int) (rest m : Sto) : Prop where
  ex : ∃ a b c : Int, m = .tab tq0 :: .tab tq1 :: .lst [.int a, .int b, .int c] :: rest ∧ 0 ≤ a ∧ 0 ≤ b ∧ b < 2 ^ 62 ∧ 0 ≤ c ∧ c ≤ B
theorem SrcR.mono {B B' : Int} {rest m : Sto} (h : SrcR B rest m) (hb : B ≤ B') : SrcR B' rest m := by
  obtain ⟨a, b, c, e, h1, h2, h3, h4, h5⟩ := h.ex
  exact ⟨a, b, c, e, h1, h2, h3, h4, by omega⟩
theorem SrcR.len {B : Int} {rest m : Sto} (h : SrcR B rest m) : m.length = rest.length + 3 := by
  obtain ⟨a, b, c, e, _⟩ := h.ex
  rw [e]; rfl
theorem SrcR.push {B : Int} {rest m : Sto} (h : SrcR B rest m) (x : MO) : SrcR B (rest ++ [x]) (m ++ [x]) := by
  obtain ⟨a, b, c, e, q⟩ := h.ex
  exact ⟨a, b, c, by rw [e]; rfl, q⟩
theorem SrcR.set {B : Int} {rest m : Sto} (h : SrcR B rest m) (k : Nat) (x : MO) : SrcR B (rest.set k x) (m.set (k + 3) x) := by
  obtain ⟨a, b, c, e, q⟩ := h.ex
  exact ⟨a, b, c, by rw [e]; rfl, q⟩
theorem SrcR.get {B : Int} {rest m : Sto} (h : SrcR B rest m) (k : Nat) : m[k + 3]? = rest[k]? := by
  obtain ⟨a, b, c, e, q⟩ := h.ex
  rw [e]; rfl
theorem SrcR.take {B : Int} {rest more m : Sto} (h : SrcR B (rest ++ more) m) : SrcR B rest (m.take (rest.length + 3)) := by
  obtain ⟨a, b, c, e, q⟩ := h.ex
  exact ⟨a, b, c, by rw [e]; simp, q⟩
def Cl (rest : Sto) : Prop := rest.all (MO.bel (rest.length + 3)) = true
theorem Cl.nil : Cl [] := rfl
theorem SrcR.all {B : Int} {rest m : Sto} (h : SrcR B rest m) (c : Cl rest) : m.all (MO.bel (rest.length + 3)) = true := by
  obtain ⟨a, b, c', e, q⟩ := h.ex
  rw [e, List.all_cons, List.all_cons, List.all_cons]
  have : MO.bel (rest.length + 3) (.lst [.int a, .int b, .int c']) = true := by simp [MO.bel, D.bels, D.bel]
  rw [this]; exact c
theorem exitF_len {n : Nat} {d : D} {m : Sto} (h : m.length = n) : exitF n d m = .ok d m := by
  unfold exitF; rw [if_pos h]
theorem exitF_cons {d : D} {x : MO} {rest : Sto} : exitF (rest.length + 3) d (.tab tq0 :: .tab tq1 :: x :: rest) = .ok d (.tab tq0 :: .tab tq1 :: x :: rest) := exitF_len rfl
theorem SrcR.exit {B : Int} {rest more m : Sto} (h : SrcR B (rest ++ more) m) (c : Cl rest) {d : D} (hd : D.bel (rest.length + 3) d = true) : ∃ m0, exitF (rest.length + 3) d m = .ok d m0 ∧ SrcR B rest m0 :=
  ⟨_, exitF_bel rfl (h.take.all c) hd, h.take⟩
theorem ok_draw {B lim : Int} {rest m : Sto} (h : SrcR B rest m) (hB : B ≤ 2 ^ 60) (hl : 0 < lim) (hl2 : lim < 2 ^ 1000) : (m_Ldraw [.ref 2, .int lim] m).sat fun d m' => ∃ v, d = .int v ∧ 0 ≤ v ∧ v < lim ∧ SrcR (B + 1) rest m' := by
  obtain ⟨a, b, c, rfl, ha, hb, hb2, hc, hc2⟩ := h.ex
  have hl3 : lim.natAbs.log2 < 9000 := Nat.lt_trans (log2_le (k := 1000) (by omega) hl2 (by decide)) (by decide)
  unfold m_Ldraw
  rw [runF_sat]
  unfold g_Ldraw
  simp -implicitDefEqProofs only [exitF_cons, sSeq, sAsg, sRet, sRetN, sIf, sExpr, sPar, sPar3, sNext, gBin, gUn, gAs, gChain, gIf, gB, gBM, gCall, aCons, aNil, gTru, bNot, bAnd, bOr, gAnd, gOr, gNot, L3.gTup, L3.gLst, gLstM, gCut, gPart, gFld, gDget1, gDisp, gPairs, gDnewK, nTup, nCons, nNil, nSub, nFld, nName_eq, gVar_0, gVar_s, gC_eq, cYes, sat_ok, sat_bad, sat_bind, sat_guard, sat_if, sat_nox, sat_nx, sat_rt, sat_bk, sat_ct, sat_sbad, sat_sif, sat_ofOut, sat_then, Out.bind_ok, startE, List.map_cons, List.map_nil, List.length_cons, List.length_nil, List.replicate_succ, List.replicate_zero, List.cons_append, List.nil_append, List.append_nil, List.set_cons_zero, List.set_cons_succ, Nat.reduceSub, Nat.reduceAdd, if_true, if_false, Bool.false_eq_true, oAdd_i, oSub_i, oMul_i, oDiv_i, oMod_i, oPow3_i, oNeg_i, oI_i, oLt_i, oEqS_s, oIsN_eq, oNotN_eq, truD_b, truD_i, bAbs_i, bInt_b, bInt_i, bMax2_i, bMin2_i, srcT_0, srcT_1, srcT_2, srcT_p0, srcT_p2, exitF_1, exitF_0, exitK_eq, decide_eq_true_eq, Nat.zero_add, if_f, eq_self, true_and, and_true, bLen_scr, bLen_lst, bLen_tup, bTuple_lst, bTuple_tup, bAny_b, bAll_b, bSortedSet_i, bSortedSetX_i, oEq_ii]
  split
  · exact ⟨hl, ⟨hl, hl3⟩, a % lim, rfl, Int.emod_nonneg _ (by omega), Int.emod_lt_of_pos _ hl, a / lim, b, c, rfl, Int.ediv_nonneg ha (by omega), hb, hb2, hc, by omega⟩
  · obtain ⟨p, hp, p1, p2⟩ := prime_at (k := (c + 1) % 7) (m := MO.tab tq0 :: MO.tab tq1 :: MO.lst [D.int a, D.int b, D.int (c + 1)] :: rest) (by omega) (by omega)
    refine ⟨by decide, by decide, sat_of hp ?_⟩
    obtain ⟨w0, w1⟩ := sq_le (c := c + 1) (B := 2 ^ 60 + 1) (by omega) (by omega)
    have ew : 6700417 * (c + 1) * (c + 1) = 6700417 * ((c + 1) * (c + 1)) := Int.mul_assoc _ _ _
    simp -implicitDefEqProofs only [exitF_cons, sSeq, sAsg, sRet, sRetN, sIf, sExpr, sPar, sPar3, sNext, gBin, gUn, gAs, gChain, gIf, gB, gBM, gCall, aCons, aNil, gTru, bNot, bAnd, bOr, gAnd, gOr, gNot, L3.gTup, L3.gLst, gLstM, gCut, gPart, gFld, gDget1, gDisp, gPairs, gDnewK, nTup, nCons, nNil, nSub, nFld, nName_eq, gVar_0, gVar_s, gC_eq, cYes, sat_ok, sat_bad, sat_bind, sat_guard, sat_if, sat_nox, sat_nx, sat_rt, sat_bk, sat_ct, sat_sbad, sat_sif, sat_ofOut, sat_then, Out.bind_ok, startE, List.map_cons, List.map_nil, List.length_cons, List.length_nil, List.replicate_succ, List.replicate_zero, List.cons_append, List.nil_append, List.append_nil, List.set_cons_zero, List.set_cons_succ, Nat.reduceSub, Nat.reduceAdd, if_true, if_false, Bool.false_eq_true, oAdd_i, oSub_i, oMul_i, oDiv_i, oMod_i, oPow3_i, oNeg_i, oI_i, oLt_i, oEqS_s, oIsN_eq, oNotN_eq, truD_b, truD_i, bAbs_i, bInt_b, bInt_i, bMax2_i, bMin2_i, srcT_0, srcT_1, srcT_2, srcT_p0, srcT_p2, exitF_1, exitF_0, exitK_eq, decide_eq_true_eq, Nat.zero_add, if_f, eq_self, true_and, and_true, bLen_scr, bLen_lst, bLen_tup, bTuple_lst, bTuple_tup, bAny_b, bAll_b, bSortedSet_i, bSortedSetX_i, oEq_ii]
    rw [ew]
    generalize (c + 1) * (c + 1) = w at w0 w1
    generalize hx : (b + 6700417 * w + 29) ^ Int.toNat 3 % p = x
    have x0 : 0 ≤ x := hx ▸ Int.emod_nonneg _ (by omega)
    have x1 : x < 2147483648 := Int.lt_of_lt_of_le (hx ▸ Int.emod_lt_of_pos _ p1) (by omega)
    have y0 : 0 ≤ x % 10007 + 101 * (c + 1) := by omega
    have y1 : x % 10007 + 101 * (c + 1) ≤ 2 ^ 70 := by omega
    refine ⟨?_, ?_, ⟨by decide, by decide, by omega⟩, p1, by decide, ?_, ?_, by decide, ⟨by decide, ?_⟩, hl, _, rfl, Int.emod_nonneg _ (by omega), Int.emod_lt_of_pos _ hl, a, b, c + 1, rfl, ha, hb, hb2, by omega, by omega⟩
    · have := log2_le (i := 6700417) (k := 100) (by decide) (by decide) (by decide)
      have := log2_le (i := c + 1) (k := 100) (by omega) (by omega) (by decide)
      omega
    · have := log2_le (i := 6700417 * (c + 1)) (k := 100) (by omega) (by omega) (by decide)
      have := log2_le (i := c + 1) (k := 100) (by omega) (by omega) (by decide)
      omega
    · have := log2_le (i := 101) (k := 100) (by decide) (by decide) (by decide)
      have := log2_le (i := c + 1) (k := 100) (by omega) (by omega) (by decide)
      omega
    · have := log2_le (i := x) (k := 100) (by omega) (by omega) (by decide)
      have := log2_le (i := x % 10007 + 101 * (c + 1)) (k := 100) (by omega) (by omega) (by decide)
      omega
    · decide
theorem ok_start {ns : List Int} {k : Int} (h0 : 0 ≤ k) (h1 : k < 100) : (m_Lstart [.scr ns, .int k] [.tab tq0, .tab tq1]).sat fun d m' => d = .ref 2 ∧ SrcR 0 [] m' := by
  unfold m_Lstart
  rw [runF_sat]
  unfold g_Lstart
  simp -implicitDefEqProofs only [sSeq, sAsg, sRet, sRetN, sIf, sExpr, sPar, sPar3, sNext, gBin, gUn, gAs, gChain, gIf, gB, gBM, gCall, aCons, aNil, gTru, bNot, bAnd, bOr, gAnd, gOr, gNot, L3.gTup, L3.gLst, gLstM, gCut, gPart, gFld, gDget1, gDisp, gPairs, gDnewK, nTup, nCons, nNil, nSub, nFld, nName_eq, gVar_0, gVar_s, gC_eq, cYes, sat_ok, sat_bad, sat_bind, sat_guard, sat_if, sat_nox, sat_nx, sat_rt, sat_bk, sat_ct, sat_sbad, sat_sif, sat_ofOut, sat_then, Out.bind_ok, startE, List.map_cons, List.map_nil, List.length_cons, List.length_nil, List.replicate_succ, List.replicate_zero, List.cons_append, List.nil_append, List.append_nil, List.set_cons_zero, List.set_cons_succ, Nat.reduceSub, Nat.reduceAdd, if_true, if_false, Bool.false_eq_true, oAdd_i, oSub_i, oMul_i, oDiv_i, oMod_i, oPow3_i, oNeg_i, oI_i, oLt_i, oEqS_s, oIsN_eq, oNotN_eq, truD_b, truD_i, bAbs_i, bInt_b, bInt_i, bMax2_i, bMin2_i, srcT_0, srcT_1, srcT_2, srcT_p0, srcT_p2, exitF_1, exitF_0, exitK_eq, decide_eq_true_eq, Nat.zero_add, if_f, eq_self, true_and, and_true, bLen_scr, bLen_lst, bLen_tup, bTuple_lst, bTuple_tup, bAny_b, bAll_b, bSortedSet_i, bSortedSetX_i, oEq_ii]
  have k2 : 0 ≤ 15485917 * k * k ∧ 15485917 * k * k ≤ 15485917 * 10000 := by
    obtain ⟨w0, w1⟩ := sq_le (c := k) (B := 100) h0 (by omega)
    rw [Int.mul_assoc]; omega
  have big : (((10 : Int) ^ Int.toNat 60) ^ Int.toNat 5) < 2 ^ 1000 ∧ 0 < (((10 : Int) ^ Int.toNat 60) ^ Int.toNat 5) := by decide +kernel
  have mid : ((10 : Int) ^ Int.toNat 60).natAbs < 2 ^ 2000 := by decide +kernel
  have l0 : (0 : Int).natAbs.log2 = 0 := by decide
  have l1 : (1 : Int).natAbs.log2 = 0 := by decide
  have arith : ∀ cell : Int, ∀ e : Int, (e = 0 ∨ e = 1) → 0 ≤ (if cell < 0 then -cell else cell) % (((10 : Int) ^ Int.toNat 60) ^ Int.toNat 5) * e ∧ ((if cell < 0 then -cell else cell) % (((10 : Int) ^ Int.toNat 60) ^ Int.toNat 5)).natAbs.log2 + e.natAbs.log2 < 1000000 := by
    intro cell e he
    generalize (((10 : Int) ^ Int.toNat 60) ^ Int.toNat 5) = M at big
    have r0 := Int.emod_nonneg (if cell < 0 then -cell else cell) (Int.ne_of_gt big.2)
    have r1 := Int.emod_lt_of_pos (if cell < 0 then -cell else cell) big.2
    have := log2_le (k := 1000) r0 (Int.lt_trans r1 big.1) (by decide)
    rcases he with rfl | rfl
    · exact ⟨by rw [Int.mul_zero]; decide, by rw [l0]; omega⟩
    · exact ⟨by rw [Int.mul_one]; exact r0, by rw [l1]; omega⟩
  have lk : ((15485917 : Int)).natAbs.log2 + k.natAbs.log2 < 1000000 := by
    have := log2_le (i := 15485917) (k := 100) (by decide) (by decide) (by decide)
    have := log2_le (i := k) (k := 100) (by omega) (by omega) (by decide)
    omega
  have lk2 : ((15485917 * k : Int)).natAbs.log2 + k.natAbs.log2 < 1000000 := by
    have := log2_le (i := 15485917 * k) (k := 100) (by omega) (by omega) (by decide)
    have := log2_le (i := k) (k := 100) (by omega) (by omega) (by decide)
    omega
  have lk3 : ((19 : Int)).natAbs.log2 + k.natAbs.log2 < 1000000 := by
    have := log2_le (i := 19) (k := 100) (by decide) (by decide) (by decide)
    have := log2_le (i := k) (k := 100) (by omega) (by omega) (by decide)
    omega
  have seed : ∀ cell : Int, (cell % 2305843009213693951 + 15485917 * k * k + 61).natAbs.log2 + (16807 : Int).natAbs.log2 < 1000000 := by
    intro cell
    have r0 := Int.emod_nonneg cell (show (2305843009213693951 : Int) ≠ 0 by decide)
    have r1 := Int.emod_lt_of_pos cell (show (0 : Int) < 2305843009213693951 by decide)
    have := log2_le (i := cell % 2305843009213693951 + 15485917 * k * k + 61) (k := 100) (by omega) (by omega) (by decide)
    have := log2_le (i := 16807) (k := 100) (by decide) (by decide) (by decide)
    omega
  have e01 : ∀ (c : Prop) [Decidable c], (if c then (1 : Int) else 0) = 0 ∨ (if c then (1 : Int) else 0) = 1 := fun c _ => by split <;> simp
  split
  · rename_i hk
    refine sat_of (oIx_scr h0 hk) ?_
    simp -implicitDefEqProofs only [sSeq, sAsg, sRet, sRetN, sIf, sExpr, sPar, sPar3, sNext, gBin, gUn, gAs, gChain, gIf, gB, gBM, gCall, aCons, aNil, gTru, bNot, bAnd, bOr, gAnd, gOr, gNot, L3.gTup, L3.gLst, gLstM, gCut, gPart, gFld, gDget1, gDisp, gPairs, gDnewK, nTup, nCons, nNil, nSub, nFld, nName_eq, gVar_0, gVar_s, gC_eq, cYes, sat_ok, sat_bad, sat_bind, sat_guard, sat_if, sat_nox, sat_nx, sat_rt, sat_bk, sat_ct, sat_sbad, sat_sif, sat_ofOut, sat_then, Out.bind_ok, startE, List.map_cons, List.map_nil, List.length_cons, List.length_nil, List.replicate_succ, List.replicate_zero, List.cons_append, List.nil_append, List.append_nil, List.set_cons_zero, List.set_cons_succ, Nat.reduceSub, Nat.reduceAdd, if_true, if_false, Bool.false_eq_true, oAdd_i, oSub_i, oMul_i, oDiv_i, oMod_i, oPow3_i, oNeg_i, oI_i, oLt_i, oEqS_s, oIsN_eq, oNotN_eq, truD_b, truD_i, bAbs_i, bInt_b, bInt_i, bMax2_i, bMin2_i, srcT_0, srcT_1, srcT_2, srcT_p0, srcT_p2, exitF_1, exitF_0, exitK_eq, decide_eq_true_eq, Nat.zero_add, if_f, eq_self, true_and, and_true, bLen_scr, bLen_lst, bLen_tup, bTuple_lst, bTuple_tup, bAny_b, bAll_b, bSortedSet_i, bSortedSetX_i, oEq_ii]
    exact ⟨⟨by decide, by decide, by decide⟩, ⟨by decide, by decide, mid⟩, big.2, ⟨by decide, by decide, by decide⟩, (arith _ _ (e01 _)).2, by decide, lk, lk2, seed _, by decide, by decide, ⟨_, _, _, rfl, (arith _ _ (e01 _)).1, Int.emod_nonneg _ (by decide), Int.lt_trans (Int.emod_lt_of_pos _ (by decide)) (by decide), by decide, by decide⟩⟩
  · exact ⟨lk3, ⟨by decide, by decide, by decide⟩, ⟨by decide, by decide, mid⟩, big.2, ⟨by decide, by decide, by decide⟩, (arith _ _ (e01 _)).2, by decide, lk, lk2, seed _, by decide, by decide, ⟨_, _, _, rfl, (arith _ _ (e01 _)).1, Int.emod_nonneg _ (by decide), Int.lt_trans (Int.emod_lt_of_pos _ (by decide)) (by decide), by decide, by decide⟩⟩
theorem ok_choice {B : Int} {rest m : Sto} {ds : List D} (h : SrcR B rest m) (hB : B ≤ 2 ^ 60) (h0 : ds ≠ []) (h1 : ds.length < 2 ^ 30) : (m_Lchoice [.ref 2, .lst ds] m).sat fun d m' => d ∈ ds ∧ SrcR (B + 1) rest m' := by
  unfold m_Lchoice
  rw [runF_sat]
  unfold g_Lchoice
  simp -implicitDefEqProofs only [sSeq, sAsg, sRet, sRetN, sIf, sExpr, sPar, sPar3, sNext, gBin, gUn, gAs, gChain, gIf, gB, gBM, gCall, aCons, aNil, gTru, bNot, bAnd, bOr, gAnd, gOr, gNot, L3.gTup, L3.gLst, gLstM, gCut, gPart, gFld, gDget1, gDisp, gPairs, gDnewK, nTup, nCons, nNil, nSub, nFld, nName_eq, gVar_0, gVar_s, gC_eq, cYes, sat_ok, sat_bad, sat_bind, sat_guard, sat_if, sat_nox, sat_nx, sat_rt, sat_bk, sat_ct, sat_sbad, sat_sif, sat_ofOut, sat_then, Out.bind_ok, startE, List.map_cons, List.map_nil, List.length_cons, List.length_nil, List.replicate_succ, List.replicate_zero, List.cons_append, List.nil_append, List.append_nil, List.set_cons_zero, List.set_cons_succ, Nat.reduceSub, Nat.reduceAdd, if_true, if_false, Bool.false_eq_true, oAdd_i, oSub_i, oMul_i, oDiv_i, oMod_i, oPow3_i, oNeg_i, oI_i, oLt_i, oEqS_s, oIsN_eq, oNotN_eq, truD_b, truD_i, bAbs_i, bInt_b, bInt_i, bMax2_i, bMin2_i, srcT_0, srcT_1, srcT_2, srcT_p0, srcT_p2, exitF_1, exitF_0, exitK_eq, decide_eq_true_eq, Nat.zero_add, if_f, eq_self, true_and, and_true, bLen_scr, bLen_lst, bLen_tup, bTuple_lst, bTuple_tup, bAny_b, bAll_b, bSortedSet_i, bSortedSetX_i, oEq_ii]
  have hp := List.length_pos_iff.mpr h0
  refine (ok_draw h hB (by omega) (by omega)).mono fun d m' ⟨v, e, v0, v1, s⟩ => ?_
  subst e
  have hv : v.toNat < ds.length := by omega
  refine sat_of (oIx_seq (ds := ds) rfl (fun _ => nofun) v0 (List.getElem?_eq_getElem hv)) ?_
  have el : m'.length = m.length := by rw [s.len, h.len]
  unfold exitF
  rw [if_pos el]
  exact ⟨List.getElem_mem hv, s⟩
end Wk
namespace Wk
open PySem PySem.Spec L2 L3
open PyProof.Rows hiding St
section
variable {m : Sto} {k : Nat} {ds : List D} {ns : List Int} {x : D}
theorem tyM_lst (h : m[k]? = some (.lst ds)) : tyM m "list" (.ref k) = true := by
  unfold tyM
  simp only [h]
  rfl
theorem mAppend_lst (h : m[k]? = some (.lst ds)) (hl : ds.length < sizeLine) : mAppend (.ref k) [x] m = .ok .non (m.set k (.lst (ds ++ [x]))) := by
  unfold mAppend
  simp only [h]
  rw [if_pos hl]
theorem bSumS_ref (h : m[k]? = some (.lst (ns.map .int))) : bSumS [.ref k] m = .ok (.int ns.sum) m := by
  unfold bSumS seqInts seqOf lstOf
  simp only [h, Option.bind_some, intsOf_map]
theorem bTuple_ref (h : m[k]? = some (.lst ds)) : bTuple [.ref k] m = .ok (.tup ds) m := by
  unfold bTuple seqOf lstOf
  simp only [h]
end
end Wk
namespace Wk
open PySem PySem.Spec L2 L3
open PyProof.Rows hiding St
def sumH (hd : Int → Int) (l : List Int) : Int := (l.map hd).sum
theorem sumH_nil (hd : Int → Int) : sumH hd [] = 0 := rfl
theorem sumH_cons (hd : Int → Int) (t : Int) (l : List Int) : sumH hd (t :: l) = hd t + sumH hd l := by unfold sumH; rw [List.map_cons, List.sum_cons]
theorem sumH_append (hd : Int → Int) : ∀ (l l2 : List Int), sumH hd (l ++ l2) = sumH hd l + sumH hd l2
  | [], l2 => by rw [sumH_nil]; simp
  | t :: l, l2 => by rw [List.cons_append, sumH_cons, sumH_cons, sumH_append hd l l2]; omega
theorem sumH_perm {hd : Int → Int} {l l2 : List Int} (p : l.Perm l2) : sumH hd l = sumH hd l2 := by
  induction p with
  | nil => rfl
  | cons x p ih => rw [sumH_cons, sumH_cons, ih]
  | swap x y l => rw [sumH_cons, sumH_cons, sumH_cons, sumH_cons]; omega
  | trans p q h1 h2 => rw [h1, h2]
theorem sumH_nn {hd : Int → Int} (h : ∀ t, 0 ≤ hd t) : ∀ l : List Int, 0 ≤ sumH hd l
  | [] => Int.le_refl _
  | t :: l => by have := sumH_nn h l; have := h t; rw [sumH_cons]; omega
theorem sumH_sub {hd : Int → Int} (h : ∀ t, 0 ≤ hd t) : ∀ {p l : List Int}, p.Nodup → (∀ t ∈ p, t ∈ l) → sumH hd p ≤ sumH hd l
  | [], l, _, _ => sumH_nn h l
  | t :: p, l, n, s => by
    rw [List.nodup_cons] at n
    have e := sumH_perm (hd := hd) (List.perm_cons_erase (s t List.mem_cons_self))
    rw [e, sumH_cons, sumH_cons]
    have := sumH_sub h (p := p) (l := l.erase t) n.2 fun x hx => (List.mem_erase_of_ne (fun q => n.1 (by rw [← q]; exact hx))).mpr (s x (List.mem_cons_of_mem _ hx))
    omega
def FinSeq (nd hd : Int → Int) : Int → List Int → Prop
  | _, [] => True
  | free, t :: l => nd t ≤ free ∧ FinSeq nd hd (free + hd t) l
theorem FinSeq.append {nd hd : Int → Int} : ∀ {free : Int} {l l2 : List Int}, FinSeq nd hd free l → FinSeq nd hd (free + sumH hd l) l2 → FinSeq nd hd free (l ++ l2)
  | free, [], l2, _, h2 => by rw [sumH_nil, Int.add_zero] at h2; exact h2
  | free, t :: l, l2, h1, h2 => ⟨h1.1, FinSeq.append h1.2 (by rw [sumH_cons] at h2; rw [Int.add_assoc]; exact h2)⟩
theorem FinSeq.all {nd hd : Int → Int} (h0 : ∀ t, 0 ≤ hd t) : ∀ {free : Int} {l : List Int}, (∀ t ∈ l, nd t ≤ free) → FinSeq nd hd free l
  | _, [], _ => trivial
  | free, t :: l, h => ⟨h t List.mem_cons_self, FinSeq.all h0 fun x hx => by
    have := h x (List.mem_cons_of_mem _ hx)
    have := h0 t
    omega⟩
theorem FinSeq.sub {nd hd : Int → Int} (h0 : ∀ t, 0 ≤ hd t) {free : Int} {l2 : List Int} : ∀ {l1 p : List Int}, (p ++ l1).Nodup → (∀ t ∈ p, t ∈ l2) → FinSeq nd hd (free + sumH hd p) l1 → (∀ t ∈ l1, t ∉ l2 → free + sumH hd l2 < nd t) → ∀ t ∈ l1, t ∈ l2
  | [], p, _, _, _, _ => nofun
  | t :: l1, p, n, s, f, mx => by
    have ht : t ∈ l2 := by
      apply Classical.byContradiction
      intro q
      have h1 := mx t List.mem_cons_self q
      have h2 := sumH_sub h0 (List.nodup_append.mp n).1 s
      have h3 := f.1
      omega
    have ih := FinSeq.sub h0 (free := free) (l2 := l2) (l1 := l1) (p := p ++ [t]) (by rw [List.append_assoc]; exact n) (fun x hx => by
      rcases List.mem_append.mp hx with h | h
      · exact s x h
      · rw [List.mem_singleton] at h; rw [h]; exact ht) (by rw [sumH_append, sumH_cons, sumH_nil]; have := f.2; rw [Int.add_zero, ← Int.add_assoc]; exact this) fun x hx => mx x (List.mem_cons_of_mem _ hx)
    intro x hx
    rcases List.mem_cons.mp hx with h | h
    · rw [h]; exact ht
    · exact ih x h
structure Fin (nd hd : Int → Int) (free : Int) (ts l : List Int) : Prop where
  nod : l.Nodup
  sub : ∀ t ∈ l, t ∈ ts
  seq : FinSeq nd hd free l
  max : ∀ t ∈ ts, t ∉ l → free + sumH hd l < nd t
theorem Fin.same {nd hd : Int → Int} {free : Int} {ts l l2 : List Int} (h0 : ∀ t, 0 ≤ hd t) (a : Fin nd hd free ts l) (b : Fin nd hd free ts l2) : ∀ t, t ∈ l ↔ t ∈ l2 := fun t =>
  ⟨FinSeq.sub h0 (p := []) (free := free) (by simpa using a.nod) nofun (by rw [sumH_nil, Int.add_zero]; exact a.seq) (fun x hx q => b.max x (a.sub x hx) q) t,
   FinSeq.sub h0 (p := []) (free := free) (by simpa using b.nod) nofun (by rw [sumH_nil, Int.add_zero]; exact b.seq) (fun x hx q => a.max x (b.sub x hx) q) t⟩
theorem sum_nn : ∀ {l : List Int}, (∀ x ∈ l, 0 ≤ x) → 0 ≤ l.sum
  | [], _ => Int.le_refl _
  | x :: l, h => by
    have := h x List.mem_cons_self
    have := sum_nn (l := l) fun y hy => h y (List.mem_cons_of_mem _ hy)
    rw [List.sum_cons]; omega
end Wk
namespace Wk
open PySem PySem.Spec L2 L3
open PyProof.Rows hiding St
structure IsPlan (ns : List Int) : Prop where
  ne : ns ≠ []
  len : ns.length ≤ 6
  lo : ∀ x ∈ ns, 1 ≤ x
  sum : ns.sum ≤ 120
theorem sum_ge : ∀ {ns : List Int}, (∀ x ∈ ns, 1 ≤ x) → (ns.length : Int) ≤ ns.sum
  | [], _ => by simp
  | n :: ns, h => by
    have h1 := h n List.mem_cons_self
    have h2 := sum_ge fun x hx => h x (List.mem_cons_of_mem n hx)
    simp only [List.length_cons, List.sum_cons]
    omega
theorem sum_app (a : List Int) (x : Int) : (a ++ [x]).sum = a.sum + x := by simp
end Wk
namespace Wk
open PySem PySem.Spec L2 L3
open PyProof.Rows hiding St
mutual
def av (B : Int) : D → Bool
  | .non => true
  | .bl _ => true
  | .int i => decide (-B ≤ i) && decide (i ≤ B)
  | .str x => decide (x.length ≤ 700) && PyData.strOk x
  | .tup ds => avs B ds
  | .lst ds => avs B ds
  | .dK ks ds => (decide (ks = []) && ds.isEmpty) || (decide (ks = [.inr "a"]) && (decide (ds.length = 1) && avs B ds))
  | _ => false
def avs (B : Int) : List D → Bool
  | [] => true
  | d :: ds => av B d && avs B ds
end
mutual
def wx : D → Nat
  | .int _ => 2000
  | .str x => 10 * x.length + 4
  | .tup ds => 4 + wxs ds
  | .lst ds => 4 + wxs ds
  | .dK _ ds => 20 + wxs ds
  | _ => 8
def wxs : List D → Nat
  | [] => 0
  | d :: ds => wx d + 2 + wxs ds
end
mutual
def dpx : D → Nat
  | .tup ds => dpxs ds + 1
  | .lst ds => dpxs ds + 1
  | .dK _ ds => dpxs ds + 1
  | _ => 0
def dpxs : List D → Nat
  | [] => 0
  | d :: ds => max (dpx d) (dpxs ds)
end
theorem avs_iff {B : Int} : ∀ {ds : List D}, avs B ds = true ↔ ∀ d ∈ ds, av B d = true
  | [] => by unfold avs; simp
  | d :: ds => by unfold avs; simp [avs_iff (ds := ds)]
mutual
theorem av_pu {B : Int} : ∀ {d : D}, av B d = true → D.pu d = true
  | .non, _ => by unfold D.pu; rfl
  | .bl _, _ => by unfold D.pu; rfl
  | .int _, _ => by unfold D.pu; rfl
  | .str _, _ => by unfold D.pu; rfl
  | .tup ds, h => by unfold av at h; unfold D.pu; exact avs_pu h
  | .lst ds, h => by unfold av at h; unfold D.pu; exact avs_pu h
  | .dK ks ds, h => by
    unfold av at h; unfold D.pu
    simp only [Bool.or_eq_true, Bool.and_eq_true] at h
    rcases h with h | h
    · rw [List.isEmpty_iff.mp h.2]; unfold D.pus; rfl
    · exact avs_pu h.2.2
  | .ty _, h => by unfold av at h; cases h
  | .cls _, h => by unfold av at h; cases h
  | .dT _ _, h => by unfold av at h; cases h
  | .ins _ _ _, h => by unfold av at h; cases h
  | .scr _, h => by unfold av at h; cases h
  | .ref _, h => by unfold av at h; cases h
theorem avs_pu {B : Int} : ∀ {ds : List D}, avs B ds = true → D.pus ds = true
  | [], _ => by unfold D.pus; rfl
  | d :: ds, h => by
    unfold avs at h
    simp only [Bool.and_eq_true] at h
    unfold D.pus
    rw [av_pu h.1, avs_pu h.2]; rfl
end
mutual
theorem pu_bel (n : Nat) : ∀ {d : D}, D.pu d = true → D.bel n d = true
  | .non, _ => by unfold D.bel; rfl
  | .bl _, _ => by unfold D.bel; rfl
  | .int _, _ => by unfold D.bel; rfl
  | .str _, _ => by unfold D.bel; rfl
  | .scr _, _ => by unfold D.bel; rfl
  | .tup ds, h => by unfold D.pu at h; unfold D.bel; exact pus_bel n h
  | .lst ds, h => by unfold D.pu at h; unfold D.bel; exact pus_bel n h
  | .dK ks ds, h => by unfold D.pu at h; unfold D.bel; exact pus_bel n h
  | .ty _, h => by unfold D.pu at h; cases h
  | .cls _, h => by unfold D.pu at h; cases h
  | .dT _ _, h => by unfold D.pu at h; cases h
  | .ins _ _ _, h => by unfold D.pu at h; cases h
  | .ref _, h => by unfold D.pu at h; cases h
theorem pus_bel (n : Nat) : ∀ {ds : List D}, D.pus ds = true → D.bels n ds = true
  | [], _ => by unfold D.bels; rfl
  | d :: ds, h => by
    unfold D.pus at h
    simp only [Bool.and_eq_true] at h
    unfold D.bels
    rw [pu_bel n h.1, pus_bel n h.2]; rfl
end
theorem pxs_map (ds : List D) : pxs ds = ds.map px := by
  induction ds with
  | nil => rfl
  | cons d ds ih => rw [pxs, ih]; rfl
theorem dict1_len (p : Str) : (dictText [p]).length ≤ p.length + 2 := by
  unfold dictText
  rw [strLen_append, strLen_append]
  have h := StrLaws.join_length_le ", " [p]
  have e1 : (("{" : String) : Str).length = 1 := rfl
  have e2 : (("}" : String) : Str).length = 1 := rfl
  have e3 : (Str.join ", " [p]).length = p.length := rfl
  omega
mutual
theorem av_show {B : Int} (hB : B < 2 ^ 1900) : ∀ {d : D}, av B d = true → (px d).showable = true ∧ (px d).shown.length ≤ wx d ∧ (px d).depth ≤ dpx d
  | .non, _ => by unfold px wx PyData.showable PyData.shown dpx PyData.depth; exact ⟨rfl, by decide, by decide⟩
  | .bl b, _ => by unfold px wx PyData.showable PyData.shown dpx PyData.depth; exact ⟨rfl, by cases b <;> decide, by decide⟩
  | .int i, h => by
    unfold av at h
    simp only [Bool.and_eq_true, decide_eq_true_eq] at h
    have hl : i.natAbs.log2 < 1920 := Nat.lt_trans (log2_lt (k := 1900) (by omega) (by decide)) (by decide)
    unfold px wx PyData.showable PyData.shown dpx PyData.depth
    refine ⟨decide_eq_true hl, ?_, by decide⟩
    have := int_text_length_le (a := i) (k := 1920) (by omega) hl
    have e : (Str.ofString (toString i)).length = (toString i).length := PySem.ofString_length _
    show (Str.ofString (toString i)).length ≤ 2000
    omega
  | .str x, h => by
    unfold av PyData.strOk at h
    simp only [Bool.and_eq_true] at h
    unfold px wx PyData.showable PyData.shown dpx PyData.depth
    refine ⟨rfl, ?_, by decide⟩
    have := StrLaws.reprText_len x fun c hc => by
      have := Array.all_eq_true'.mp h.2 c (by simpa using hc)
      have := of_decide_eq_true this
      omega
    omega
  | .tup ds, h => by
    unfold av at h
    obtain ⟨h1, h2, h3⟩ := avs_show hB h
    unfold px wx dpx
    refine ⟨by unfold PyData.showable; exact h1, ?_, by unfold PyData.depth; omega⟩
    unfold PyData.shown
    have := tupleText_le (PyData.shownAll (pxs ds))
    rw [shownAll_len, pxs_map, List.length_map] at this
    rw [← pxs_map] at this
    omega
  | .lst ds, h => by
    unfold av at h
    obtain ⟨h1, h2, h3⟩ := avs_show hB h
    unfold px wx dpx
    refine ⟨by unfold PyData.showable; exact h1, ?_, by unfold PyData.depth; omega⟩
    unfold PyData.shown
    have := listText_le (PyData.shownAll (pxs ds))
    rw [shownAll_len, pxs_map, List.length_map] at this
    rw [← pxs_map] at this
    omega
  | .dK ks ds, h => by
    unfold av at h
    simp only [Bool.or_eq_true, Bool.and_eq_true, decide_eq_true_eq] at h
    rcases h with ⟨h1, h2⟩ | ⟨h1, h2, h3⟩
    · rw [h1, List.isEmpty_iff.mp h2]
      unfold px pxs wx wxs dpx dpxs
      refine ⟨by simp [PyData.showable, PyData.showableKv], ?_, by simp [PyData.depth, PyData.depthKv]⟩
      decide +kernel
    · obtain ⟨q1, q2, q3⟩ := avs_show hB h3
      obtain ⟨d, rfl⟩ := List.length_eq_one_iff.mp h2
      rw [h1]
      unfold pxs at q1 q2 q3
      unfold pxs PyData.shownAll at q2
      unfold px pxs pxs wx dpx
      simp only [List.map_cons, List.map_nil, List.zip_cons_cons, List.zip_nil_left, keyP]
      refine ⟨?_, ?_, ?_⟩
      · unfold pxs PyData.showableAll at q1
        simp only [Bool.and_eq_true] at q1
        simp [PyData.showable, PyData.showableKv, q1.1]
      · unfold PyData.shown PyData.shownKv PyData.shownKv
        have := dict1_len ((PyData.str "a").shown ++ ": " ++ (px d).shown)
        rw [strLen_append, strLen_append] at this
        have e1 : ((PyData.str "a").shown).length = 3 := by unfold PyData.shown; decide +kernel
        have e2 : ((": " : String) : Str).length = 2 := rfl
        rw [lens_cons] at q2
        simp only [List.length_cons] at q2
        omega
      · unfold pxs PyData.depthAll at q3
        simp only [PyData.depth, PyData.depthKv]
        omega
  | .ty _, h => by unfold av at h; cases h
  | .cls _, h => by unfold av at h; cases h
  | .dT _ _, h => by unfold av at h; cases h
  | .ins _ _ _, h => by unfold av at h; cases h
  | .scr _, h => by unfold av at h; cases h
  | .ref _, h => by unfold av at h; cases h
theorem avs_show {B : Int} (hB : B < 2 ^ 1900) : ∀ {ds : List D}, avs B ds = true → PyData.showableAll (pxs ds) = true ∧ lens (PyData.shownAll (pxs ds)) + 2 * ds.length ≤ wxs ds ∧ PyData.depthAll (pxs ds) ≤ dpxs ds
  | [], _ => by unfold pxs PyData.showableAll PyData.shownAll wxs dpxs PyData.depthAll; simp [lens]
  | d :: ds, h => by
    unfold avs at h
    simp only [Bool.and_eq_true] at h
    obtain ⟨h1, h2, h3⟩ := av_show hB h.1
    obtain ⟨h4, h5, h6⟩ := avs_show hB h.2
    unfold pxs PyData.showableAll PyData.shownAll wxs dpxs PyData.depthAll
    refine ⟨by rw [h1, h4]; rfl, ?_, by omega⟩
    rw [lens_cons]
    simp only [List.length_cons]
    omega
end
structure Av (n w : Nat) (B : Int) (d : D) : Prop where
  v : av B d = true
  dp : dpx d ≤ n
  wt : wx d ≤ w
theorem viewL_av {B : Int} {d : D} {m : Sto} (h : av B d = true) : viewL m d = d := by
  cases d <;> first | rfl | (unfold av at h; cases h)
theorem repr_av {n w : Nat} {B : Int} {d : D} {m : Sto} (h : Av n w B d) (hB : B < 2 ^ 1900) (hn : n ≤ 62) (hw : w ≤ sizeLine) : bReprX [d] m = .ok (.str (xtext d)) m := by
  obtain ⟨h1, h2, h3⟩ := av_show hB h.v
  have a := h.dp
  have b := h.wt
  unfold bReprX
  simp only [viewL_av h.v]
  refine if_pos ?_
  unfold shOk
  rw [av_pu h.v, h1, decide_eq_true (show (px d).depth ≤ 62 by omega), decide_eq_true (show (px d).shown.length ≤ sizeLine by omega)]
  rfl
theorem eq_of_satX {o : Out D} {x : D} {m : Sto} (h : o.sat fun d m' => d = x ∧ m' = m) : o = .ok x m := eq_of_sat' h
def isTup : D → Bool
  | .tup _ => true
  | _ => false
def isIntD : D → Bool
  | .int _ => true
  | _ => false
def isBoolD : D → Bool
  | .bl _ => true
  | _ => false
section
variable {B : Int} {d : D} {m : Sto}
theorem isiX_tuple (h : av B d = true) : bIsiX [d, .ty "tuple"] m = .ok (.bl (isTup d)) m := by
  have e1 : isiB "NoneType" "tuple" = some false := by decide +kernel
  have e2 : isiB "bool" "tuple" = some false := by decide +kernel
  have e3 : isiB "int" "tuple" = some false := by decide +kernel
  have e4 : isiB "str" "tuple" = some false := by decide +kernel
  have e5 : isiB "tuple" "tuple" = some true := by decide +kernel
  have e6 : isiB "list" "tuple" = some false := by decide +kernel
  have e7 : isiB "dict" "tuple" = some false := by decide +kernel
  cases d <;> first | (simp only [bIsiX, tyNameX, tyName, e1, e2, e3, e4, e5, e6, e7, isTup]; done) | (unfold av at h; cases h)
theorem isiX_int (h : av B d = true) : bIsiX [d, .ty "int"] m = .ok (.bl (isIntD d || isBoolD d)) m := by
  have e1 : isiB "NoneType" "int" = some false := by decide +kernel
  have e2 : isiB "bool" "int" = some true := by decide +kernel
  have e3 : isiB "int" "int" = some true := by decide +kernel
  have e4 : isiB "str" "int" = some false := by decide +kernel
  have e5 : isiB "tuple" "int" = some false := by decide +kernel
  have e6 : isiB "list" "int" = some false := by decide +kernel
  have e7 : isiB "dict" "int" = some false := by decide +kernel
  cases d <;> first | (simp only [bIsiX, tyNameX, tyName, e1, e2, e3, e4, e5, e6, e7, isIntD, isBoolD, Bool.or_false, Bool.or_true, Bool.false_or]; done) | (unfold av at h; cases h)
theorem isiX_bool (h : av B d = true) : bIsiX [d, .ty "bool"] m = .ok (.bl (isBoolD d)) m := by
  have e1 : isiB "NoneType" "bool" = some false := by decide +kernel
  have e2 : isiB "bool" "bool" = some true := by decide +kernel
  have e3 : isiB "int" "bool" = some false := by decide +kernel
  have e4 : isiB "str" "bool" = some false := by decide +kernel
  have e5 : isiB "tuple" "bool" = some false := by decide +kernel
  have e6 : isiB "list" "bool" = some false := by decide +kernel
  have e7 : isiB "dict" "bool" = some false := by decide +kernel
  cases d <;> first | (simp only [bIsiX, tyNameX, tyName, e1, e2, e3, e4, e5, e6, e7, isBoolD]; done) | (unfold av at h; cases h)
end
end Wk
namespace Wk
open PySem PySem.Spec L2 L3
open PyProof.Rows hiding St
def btw (lo hi : Int) : D → Bool
  | .int i => decide (lo ≤ i) && decide (i ≤ hi)
  | _ => false
def intV : D → Int
  | .int i => i
  | _ => 0
def planB : D → Bool
  | .tup ds => (decide (1 ≤ ds.length) && decide (ds.length ≤ 6)) && (ds.all (btw 1 120) && decide ((ds.map intV).sum ≤ 120))
  | _ => false
theorem btw_int {lo hi : Int} {d : D} (h : btw lo hi d = true) : d = .int (intV d) := by
  cases d <;> first | rfl | (unfold btw at h; cases h)
theorem btws_int {lo hi : Int} : ∀ {ds : List D}, ds.all (btw lo hi) = true → ds = (ds.map intV).map .int
  | [], _ => rfl
  | d :: ds, h => by
    rw [List.all_cons, Bool.and_eq_true] at h
    rw [List.map_cons, List.map_cons, ← btw_int h.1, ← btws_int h.2]
section
variable {B : Int} {d : D} {ds : List D} {m : Sto} {lo hi : Int}
theorem integerX (h : av B d = true) : m_is_integer [d] m = .ok (.bl (isIntD d)) m := by
  refine eq_of_satX ?_
  unfold m_is_integer
  rw [runF_sat]
  unfold g_is_integer
  simp -implicitDefEqProofs only [isiX_int h, isiX_bool h, sSeq, sAsg, sRet, sRetN, sIf, sExpr, sPar, sPar3, sNext, gBin, gUn, gAs, gChain, gIf, gB, gBM, gCall, aCons, aNil, gTru, bNot, bAnd, bOr, gAnd, gOr, gNot, L3.gTup, L3.gLst, gLstM, gCut, gPart, gFld, gDget1, gDisp, gPairs, gDnewK, nTup, nCons, nNil, nSub, nFld, nName_eq, gVar_0, gVar_s, gC_eq, cYes, sat_ok, sat_bad, sat_bind, sat_guard, sat_if, sat_nox, sat_nx, sat_rt, sat_bk, sat_ct, sat_sbad, sat_sif, sat_ofOut, sat_then, Out.bind_ok, startE, List.map_cons, List.map_nil, List.length_cons, List.length_nil, List.replicate_succ, List.replicate_zero, List.cons_append, List.nil_append, List.append_nil, List.set_cons_zero, List.set_cons_succ, Nat.reduceSub, Nat.reduceAdd, if_true, if_false, Bool.false_eq_true, oAdd_i, oSub_i, oMul_i, oDiv_i, oMod_i, oPow3_i, oNeg_i, oI_i, oLt_i, oEqS_s, oIsN_eq, oNotN_eq, truD_b, truD_i, bAbs_i, bInt_b, bInt_i, bMax2_i, bMin2_i, srcT_0, srcT_1, srcT_2, srcT_p0, srcT_p2, exitF_1, exitF_0, exitK_eq, decide_eq_true_eq, Nat.zero_add, if_f, eq_self, true_and, and_true, bLen_scr, bLen_lst, bLen_tup, bTuple_lst, bTuple_tup, bAny_b, bAll_b, bSortedSet_i, bSortedSetX_i, oEq_ii]
  cases d <;> first | (simp -implicitDefEqProofs only [isIntD, isBoolD, Bool.or_false, Bool.or_true, Bool.not_true, Bool.not_false, exitF_len, sSeq, sAsg, sRet, sRetN, sIf, sExpr, sPar, sPar3, sNext, gBin, gUn, gAs, gChain, gIf, gB, gBM, gCall, aCons, aNil, gTru, bNot, bAnd, bOr, gAnd, gOr, gNot, L3.gTup, L3.gLst, gLstM, gCut, gPart, gFld, gDget1, gDisp, gPairs, gDnewK, nTup, nCons, nNil, nSub, nFld, nName_eq, gVar_0, gVar_s, gC_eq, cYes, sat_ok, sat_bad, sat_bind, sat_guard, sat_if, sat_nox, sat_nx, sat_rt, sat_bk, sat_ct, sat_sbad, sat_sif, sat_ofOut, sat_then, Out.bind_ok, startE, List.map_cons, List.map_nil, List.length_cons, List.length_nil, List.replicate_succ, List.replicate_zero, List.cons_append, List.nil_append, List.append_nil, List.set_cons_zero, List.set_cons_succ, Nat.reduceSub, Nat.reduceAdd, if_true, if_false, Bool.false_eq_true, oAdd_i, oSub_i, oMul_i, oDiv_i, oMod_i, oPow3_i, oNeg_i, oI_i, oLt_i, oEqS_s, oIsN_eq, oNotN_eq, truD_b, truD_i, bAbs_i, bInt_b, bInt_i, bMax2_i, bMin2_i, srcT_0, srcT_1, srcT_2, srcT_p0, srcT_p2, exitF_1, exitF_0, exitK_eq, decide_eq_true_eq, Nat.zero_add, if_f, eq_self, true_and, and_true, bLen_scr, bLen_lst, bLen_tup, bTuple_lst, bTuple_tup, bAny_b, bAll_b, bSortedSet_i, bSortedSetX_i, oEq_ii]; done) | (unfold av at h; cases h)
theorem betweenX (h : av B d = true) : m_is_between [d, .int lo, .int hi] m = .ok (.bl (btw lo hi d)) m := by
  refine eq_of_satX ?_
  unfold m_is_between
  rw [runF_sat]
  unfold g_is_between
  simp -implicitDefEqProofs only [integerX h, sSeq, sAsg, sRet, sRetN, sIf, sExpr, sPar, sPar3, sNext, gBin, gUn, gAs, gChain, gIf, gB, gBM, gCall, aCons, aNil, gTru, bNot, bAnd, bOr, gAnd, gOr, gNot, L3.gTup, L3.gLst, gLstM, gCut, gPart, gFld, gDget1, gDisp, gPairs, gDnewK, nTup, nCons, nNil, nSub, nFld, nName_eq, gVar_0, gVar_s, gC_eq, cYes, sat_ok, sat_bad, sat_bind, sat_guard, sat_if, sat_nox, sat_nx, sat_rt, sat_bk, sat_ct, sat_sbad, sat_sif, sat_ofOut, sat_then, Out.bind_ok, startE, List.map_cons, List.map_nil, List.length_cons, List.length_nil, List.replicate_succ, List.replicate_zero, List.cons_append, List.nil_append, List.append_nil, List.set_cons_zero, List.set_cons_succ, Nat.reduceSub, Nat.reduceAdd, if_true, if_false, Bool.false_eq_true, oAdd_i, oSub_i, oMul_i, oDiv_i, oMod_i, oPow3_i, oNeg_i, oI_i, oLt_i, oEqS_s, oIsN_eq, oNotN_eq, truD_b, truD_i, bAbs_i, bInt_b, bInt_i, bMax2_i, bMin2_i, srcT_0, srcT_1, srcT_2, srcT_p0, srcT_p2, exitF_1, exitF_0, exitK_eq, decide_eq_true_eq, Nat.zero_add, if_f, eq_self, true_and, and_true, bLen_scr, bLen_lst, bLen_tup, bTuple_lst, bTuple_tup, bAny_b, bAll_b, bSortedSet_i, bSortedSetX_i, oEq_ii]
  cases d with
  | int i =>
    simp -implicitDefEqProofs only [isIntD, sSeq, sAsg, sRet, sRetN, sIf, sExpr, sPar, sPar3, sNext, gBin, gUn, gAs, gChain, gIf, gB, gBM, gCall, aCons, aNil, gTru, bNot, bAnd, bOr, gAnd, gOr, gNot, L3.gTup, L3.gLst, gLstM, gCut, gPart, gFld, gDget1, gDisp, gPairs, gDnewK, nTup, nCons, nNil, nSub, nFld, nName_eq, gVar_0, gVar_s, gC_eq, cYes, sat_ok, sat_bad, sat_bind, sat_guard, sat_if, sat_nox, sat_nx, sat_rt, sat_bk, sat_ct, sat_sbad, sat_sif, sat_ofOut, sat_then, Out.bind_ok, startE, List.map_cons, List.map_nil, List.length_cons, List.length_nil, List.replicate_succ, List.replicate_zero, List.cons_append, List.nil_append, List.append_nil, List.set_cons_zero, List.set_cons_succ, Nat.reduceSub, Nat.reduceAdd, if_true, if_false, Bool.false_eq_true, oAdd_i, oSub_i, oMul_i, oDiv_i, oMod_i, oPow3_i, oNeg_i, oI_i, oLt_i, oEqS_s, oIsN_eq, oNotN_eq, truD_b, truD_i, bAbs_i, bInt_b, bInt_i, bMax2_i, bMin2_i, srcT_0, srcT_1, srcT_2, srcT_p0, srcT_p2, exitF_1, exitF_0, exitK_eq, decide_eq_true_eq, Nat.zero_add, if_f, eq_self, true_and, and_true, bLen_scr, bLen_lst, bLen_tup, bTuple_lst, bTuple_tup, bAny_b, bAll_b, bSortedSet_i, bSortedSetX_i, oEq_ii]
    cases h1 : decide (lo ≤ i) <;> simp -implicitDefEqProofs only [h1, btw, Bool.true_and, Bool.false_and, exitF_len, sSeq, sAsg, sRet, sRetN, sIf, sExpr, sPar, sPar3, sNext, gBin, gUn, gAs, gChain, gIf, gB, gBM, gCall, aCons, aNil, gTru, bNot, bAnd, bOr, gAnd, gOr, gNot, L3.gTup, L3.gLst, gLstM, gCut, gPart, gFld, gDget1, gDisp, gPairs, gDnewK, nTup, nCons, nNil, nSub, nFld, nName_eq, gVar_0, gVar_s, gC_eq, cYes, sat_ok, sat_bad, sat_bind, sat_guard, sat_if, sat_nox, sat_nx, sat_rt, sat_bk, sat_ct, sat_sbad, sat_sif, sat_ofOut, sat_then, Out.bind_ok, startE, List.map_cons, List.map_nil, List.length_cons, List.length_nil, List.replicate_succ, List.replicate_zero, List.cons_append, List.nil_append, List.append_nil, List.set_cons_zero, List.set_cons_succ, Nat.reduceSub, Nat.reduceAdd, if_true, if_false, Bool.false_eq_true, oAdd_i, oSub_i, oMul_i, oDiv_i, oMod_i, oPow3_i, oNeg_i, oI_i, oLt_i, oEqS_s, oIsN_eq, oNotN_eq, truD_b, truD_i, bAbs_i, bInt_b, bInt_i, bMax2_i, bMin2_i, srcT_0, srcT_1, srcT_2, srcT_p0, srcT_p2, exitF_1, exitF_0, exitK_eq, decide_eq_true_eq, Nat.zero_add, if_f, eq_self, true_and, and_true, bLen_scr, bLen_lst, bLen_tup, bTuple_lst, bTuple_tup, bAny_b, bAll_b, bSortedSet_i, bSortedSetX_i, oEq_ii]
  | _ => simp -implicitDefEqProofs only [isIntD, btw, exitF_len, sSeq, sAsg, sRet, sRetN, sIf, sExpr, sPar, sPar3, sNext, gBin, gUn, gAs, gChain, gIf, gB, gBM, gCall, aCons, aNil, gTru, bNot, bAnd, bOr, gAnd, gOr, gNot, L3.gTup, L3.gLst, gLstM, gCut, gPart, gFld, gDget1, gDisp, gPairs, gDnewK, nTup, nCons, nNil, nSub, nFld, nName_eq, gVar_0, gVar_s, gC_eq, cYes, sat_ok, sat_bad, sat_bind, sat_guard, sat_if, sat_nox, sat_nx, sat_rt, sat_bk, sat_ct, sat_sbad, sat_sif, sat_ofOut, sat_then, Out.bind_ok, startE, List.map_cons, List.map_nil, List.length_cons, List.length_nil, List.replicate_succ, List.replicate_zero, List.cons_append, List.nil_append, List.append_nil, List.set_cons_zero, List.set_cons_succ, Nat.reduceSub, Nat.reduceAdd, if_true, if_false, Bool.false_eq_true, oAdd_i, oSub_i, oMul_i, oDiv_i, oMod_i, oPow3_i, oNeg_i, oI_i, oLt_i, oEqS_s, oIsN_eq, oNotN_eq, truD_b, truD_i, bAbs_i, bInt_b, bInt_i, bMax2_i, bMin2_i, srcT_0, srcT_1, srcT_2, srcT_p0, srcT_p2, exitF_1, exitF_0, exitK_eq, decide_eq_true_eq, Nat.zero_add, if_f, eq_self, true_and, and_true, bLen_scr, bLen_lst, bLen_tup, bTuple_lst, bTuple_tup, bAny_b, bAll_b, bSortedSet_i, bSortedSetX_i, oEq_ii]
theorem all_id {α : Type} {p : α → Bool} {l : List α} : (l.map p).all id = l.all p := by rw [List.all_map]; rfl
theorem lc_all {ds : List D} {gi : GI} {t : GT} {g : GE} {vs : List Nat} {en : Sl} {src : L3.Src} (p : D → Bool) (hi : gi en m = .ok src m) (hs : src.items = ds) (hok : src.ok m = true) (hl : ds.length ≤ sizeLine)
    (step : ∀ d ∈ ds, (t d (wipeE en vs) m).sat fun en1 m1 => m1 = m ∧ (g en1 m).sat fun y m3 => m3 = m ∧ y = .bl (p d)) : gLc gi t cYes g vs en m = .ok (.lst ((ds.map p).map .bl)) m := by
  have := lc_mapA (l := ds) (fun d => d) (fun _ => true) (fun d => .bl (p d)) hi (by rw [hs, List.map_id']) hok hl (c := cYes) (t := t) (g := g) (vs := vs) fun d hd => by
    refine (step d hd).mono fun en1 m1 ⟨e, h⟩ => ⟨e, ?_⟩
    unfold cYes
    rw [sat_ok]
    exact ⟨rfl, rfl, fun _ => h⟩
  rw [this, List.filter_eq_self.mpr fun _ _ => rfl, List.map_map]
  rfl
theorem planX (h : av B d = true) : m_is_plan [d] m = .ok (.bl (planB d)) m := by
  refine eq_of_satX ?_
  unfold m_is_plan
  rw [runF_sat]
  unfold g_is_plan
  simp -implicitDefEqProofs only [isiX_tuple h, sSeq, sAsg, sRet, sRetN, sIf, sExpr, sPar, sPar3, sNext, gBin, gUn, gAs, gChain, gIf, gB, gBM, gCall, aCons, aNil, gTru, bNot, bAnd, bOr, gAnd, gOr, gNot, L3.gTup, L3.gLst, gLstM, gCut, gPart, gFld, gDget1, gDisp, gPairs, gDnewK, nTup, nCons, nNil, nSub, nFld, nName_eq, gVar_0, gVar_s, gC_eq, cYes, sat_ok, sat_bad, sat_bind, sat_guard, sat_if, sat_nox, sat_nx, sat_rt, sat_bk, sat_ct, sat_sbad, sat_sif, sat_ofOut, sat_then, Out.bind_ok, startE, List.map_cons, List.map_nil, List.length_cons, List.length_nil, List.replicate_succ, List.replicate_zero, List.cons_append, List.nil_append, List.append_nil, List.set_cons_zero, List.set_cons_succ, Nat.reduceSub, Nat.reduceAdd, if_true, if_false, Bool.false_eq_true, oAdd_i, oSub_i, oMul_i, oDiv_i, oMod_i, oPow3_i, oNeg_i, oI_i, oLt_i, oEqS_s, oIsN_eq, oNotN_eq, truD_b, truD_i, bAbs_i, bInt_b, bInt_i, bMax2_i, bMin2_i, srcT_0, srcT_1, srcT_2, srcT_p0, srcT_p2, exitF_1, exitF_0, exitK_eq, decide_eq_true_eq, Nat.zero_add, if_f, eq_self, true_and, and_true, bLen_scr, bLen_lst, bLen_tup, bTuple_lst, bTuple_tup, bAny_b, bAll_b, bSortedSet_i, bSortedSetX_i, oEq_ii]
  cases d with
  | tup ds =>
    unfold av at h
    have hm := avs_iff.mp h
    simp -implicitDefEqProofs only [isTup, Bool.not_true, sSeq, sAsg, sRet, sRetN, sIf, sExpr, sPar, sPar3, sNext, gBin, gUn, gAs, gChain, gIf, gB, gBM, gCall, aCons, aNil, gTru, bNot, bAnd, bOr, gAnd, gOr, gNot, L3.gTup, L3.gLst, gLstM, gCut, gPart, gFld, gDget1, gDisp, gPairs, gDnewK, nTup, nCons, nNil, nSub, nFld, nName_eq, gVar_0, gVar_s, gC_eq, cYes, sat_ok, sat_bad, sat_bind, sat_guard, sat_if, sat_nox, sat_nx, sat_rt, sat_bk, sat_ct, sat_sbad, sat_sif, sat_ofOut, sat_then, Out.bind_ok, startE, List.map_cons, List.map_nil, List.length_cons, List.length_nil, List.replicate_succ, List.replicate_zero, List.cons_append, List.nil_append, List.append_nil, List.set_cons_zero, List.set_cons_succ, Nat.reduceSub, Nat.reduceAdd, if_true, if_false, Bool.false_eq_true, oAdd_i, oSub_i, oMul_i, oDiv_i, oMod_i, oPow3_i, oNeg_i, oI_i, oLt_i, oEqS_s, oIsN_eq, oNotN_eq, truD_b, truD_i, bAbs_i, bInt_b, bInt_i, bMax2_i, bMin2_i, srcT_0, srcT_1, srcT_2, srcT_p0, srcT_p2, exitF_1, exitF_0, exitK_eq, decide_eq_true_eq, Nat.zero_add, if_f, eq_self, true_and, and_true, bLen_scr, bLen_lst, bLen_tup, bTuple_lst, bTuple_tup, bAny_b, bAll_b, bSortedSet_i, bSortedSetX_i, oEq_ii]
    by_cases h1 : (1 : Int) ≤ ((ds.length : Nat) : Int)
    · by_cases h2 : ((ds.length : Nat) : Int) ≤ 6
      · have e1 := decide_eq_true h1
        have e2 := decide_eq_true h2
        have hlc := lc_all (ds := ds) (m := m) (gi := iSeq (gVar 0)) (t := nName 1) (g := gCall 3 m_is_between (aCons (gVar 1) (aCons (gC (.int 1)) (aCons (gC (.int 120)) aNil)))) (vs := [1]) (en := [some (.tup ds), none]) (src := ⟨ds, []⟩) (btw 1 120)
          (iSeq_ok (d := .tup ds) (by simp -implicitDefEqProofs only [sSeq, sAsg, sRet, sRetN, sIf, sExpr, sPar, sPar3, sNext, gBin, gUn, gAs, gChain, gIf, gB, gBM, gCall, aCons, aNil, gTru, bNot, bAnd, bOr, gAnd, gOr, gNot, L3.gTup, L3.gLst, gLstM, gCut, gPart, gFld, gDget1, gDisp, gPairs, gDnewK, nTup, nCons, nNil, nSub, nFld, nName_eq, gVar_0, gVar_s, gC_eq, cYes, sat_ok, sat_bad, sat_bind, sat_guard, sat_if, sat_nox, sat_nx, sat_rt, sat_bk, sat_ct, sat_sbad, sat_sif, sat_ofOut, sat_then, Out.bind_ok, startE, List.map_cons, List.map_nil, List.length_cons, List.length_nil, List.replicate_succ, List.replicate_zero, List.cons_append, List.nil_append, List.append_nil, List.set_cons_zero, List.set_cons_succ, Nat.reduceSub, Nat.reduceAdd, if_true, if_false, Bool.false_eq_true, oAdd_i, oSub_i, oMul_i, oDiv_i, oMod_i, oPow3_i, oNeg_i, oI_i, oLt_i, oEqS_s, oIsN_eq, oNotN_eq, truD_b, truD_i, bAbs_i, bInt_b, bInt_i, bMax2_i, bMin2_i, srcT_0, srcT_1, srcT_2, srcT_p0, srcT_p2, exitF_1, exitF_0, exitK_eq, decide_eq_true_eq, Nat.zero_add, if_f, eq_self, true_and, and_true, bLen_scr, bLen_lst, bLen_tup, bTuple_lst, bTuple_tup, bAny_b, bAll_b, bSortedSet_i, bSortedSetX_i, oEq_ii]) rfl) rfl (Src.ok_fixed _ _) (by rw [sizeLine_eq]; omega) fun d hd => by
            simp -implicitDefEqProofs only [wipeE, betweenX (hm d hd), sSeq, sAsg, sRet, sRetN, sIf, sExpr, sPar, sPar3, sNext, gBin, gUn, gAs, gChain, gIf, gB, gBM, gCall, aCons, aNil, gTru, bNot, bAnd, bOr, gAnd, gOr, gNot, L3.gTup, L3.gLst, gLstM, gCut, gPart, gFld, gDget1, gDisp, gPairs, gDnewK, nTup, nCons, nNil, nSub, nFld, nName_eq, gVar_0, gVar_s, gC_eq, cYes, sat_ok, sat_bad, sat_bind, sat_guard, sat_if, sat_nox, sat_nx, sat_rt, sat_bk, sat_ct, sat_sbad, sat_sif, sat_ofOut, sat_then, Out.bind_ok, startE, List.map_cons, List.map_nil, List.length_cons, List.length_nil, List.replicate_succ, List.replicate_zero, List.cons_append, List.nil_append, List.append_nil, List.set_cons_zero, List.set_cons_succ, Nat.reduceSub, Nat.reduceAdd, if_true, if_false, Bool.false_eq_true, oAdd_i, oSub_i, oMul_i, oDiv_i, oMod_i, oPow3_i, oNeg_i, oI_i, oLt_i, oEqS_s, oIsN_eq, oNotN_eq, truD_b, truD_i, bAbs_i, bInt_b, bInt_i, bMax2_i, bMin2_i, srcT_0, srcT_1, srcT_2, srcT_p0, srcT_p2, exitF_1, exitF_0, exitK_eq, decide_eq_true_eq, Nat.zero_add, if_f, eq_self, true_and, and_true, bLen_scr, bLen_lst, bLen_tup, bTuple_lst, bTuple_tup, bAny_b, bAll_b, bSortedSet_i, bSortedSetX_i, oEq_ii]
        simp -implicitDefEqProofs only [e1, e2, hlc, all_id, Bool.not_true, sSeq, sAsg, sRet, sRetN, sIf, sExpr, sPar, sPar3, sNext, gBin, gUn, gAs, gChain, gIf, gB, gBM, gCall, aCons, aNil, gTru, bNot, bAnd, bOr, gAnd, gOr, gNot, L3.gTup, L3.gLst, gLstM, gCut, gPart, gFld, gDget1, gDisp, gPairs, gDnewK, nTup, nCons, nNil, nSub, nFld, nName_eq, gVar_0, gVar_s, gC_eq, cYes, sat_ok, sat_bad, sat_bind, sat_guard, sat_if, sat_nox, sat_nx, sat_rt, sat_bk, sat_ct, sat_sbad, sat_sif, sat_ofOut, sat_then, Out.bind_ok, startE, List.map_cons, List.map_nil, List.length_cons, List.length_nil, List.replicate_succ, List.replicate_zero, List.cons_append, List.nil_append, List.append_nil, List.set_cons_zero, List.set_cons_succ, Nat.reduceSub, Nat.reduceAdd, if_true, if_false, Bool.false_eq_true, oAdd_i, oSub_i, oMul_i, oDiv_i, oMod_i, oPow3_i, oNeg_i, oI_i, oLt_i, oEqS_s, oIsN_eq, oNotN_eq, truD_b, truD_i, bAbs_i, bInt_b, bInt_i, bMax2_i, bMin2_i, srcT_0, srcT_1, srcT_2, srcT_p0, srcT_p2, exitF_1, exitF_0, exitK_eq, decide_eq_true_eq, Nat.zero_add, if_f, eq_self, true_and, and_true, bLen_scr, bLen_lst, bLen_tup, bTuple_lst, bTuple_tup, bAny_b, bAll_b, bSortedSet_i, bSortedSetX_i, oEq_ii]
        have p1 : decide (1 ≤ ds.length) = true := decide_eq_true (by omega)
        have p2 : decide (ds.length ≤ 6) = true := decide_eq_true (by omega)
        cases ha : ds.all (btw 1 120) with
        | false => simp -implicitDefEqProofs only [planB, ha, p1, p2, Bool.true_and, Bool.false_and, exitF_len, sSeq, sAsg, sRet, sRetN, sIf, sExpr, sPar, sPar3, sNext, gBin, gUn, gAs, gChain, gIf, gB, gBM, gCall, aCons, aNil, gTru, bNot, bAnd, bOr, gAnd, gOr, gNot, L3.gTup, L3.gLst, gLstM, gCut, gPart, gFld, gDget1, gDisp, gPairs, gDnewK, nTup, nCons, nNil, nSub, nFld, nName_eq, gVar_0, gVar_s, gC_eq, cYes, sat_ok, sat_bad, sat_bind, sat_guard, sat_if, sat_nox, sat_nx, sat_rt, sat_bk, sat_ct, sat_sbad, sat_sif, sat_ofOut, sat_then, Out.bind_ok, startE, List.map_cons, List.map_nil, List.length_cons, List.length_nil, List.replicate_succ, List.replicate_zero, List.cons_append, List.nil_append, List.append_nil, List.set_cons_zero, List.set_cons_succ, Nat.reduceSub, Nat.reduceAdd, if_true, if_false, Bool.false_eq_true, oAdd_i, oSub_i, oMul_i, oDiv_i, oMod_i, oPow3_i, oNeg_i, oI_i, oLt_i, oEqS_s, oIsN_eq, oNotN_eq, truD_b, truD_i, bAbs_i, bInt_b, bInt_i, bMax2_i, bMin2_i, srcT_0, srcT_1, srcT_2, srcT_p0, srcT_p2, exitF_1, exitF_0, exitK_eq, decide_eq_true_eq, Nat.zero_add, if_f, eq_self, true_and, and_true, bLen_scr, bLen_lst, bLen_tup, bTuple_lst, bTuple_tup, bAny_b, bAll_b, bSortedSet_i, bSortedSetX_i, oEq_ii]
        | true =>
          have hd := btws_int ha
          have hs : bSumS [.tup ds] m = .ok (.int (ds.map intV).sum) m := by
            conv => lhs; rw [hd]
            exact bSumS_t
          simp -implicitDefEqProofs only [hs, planB, ha, p1, p2, Bool.true_and, exitF_len, sSeq, sAsg, sRet, sRetN, sIf, sExpr, sPar, sPar3, sNext, gBin, gUn, gAs, gChain, gIf, gB, gBM, gCall, aCons, aNil, gTru, bNot, bAnd, bOr, gAnd, gOr, gNot, L3.gTup, L3.gLst, gLstM, gCut, gPart, gFld, gDget1, gDisp, gPairs, gDnewK, nTup, nCons, nNil, nSub, nFld, nName_eq, gVar_0, gVar_s, gC_eq, cYes, sat_ok, sat_bad, sat_bind, sat_guard, sat_if, sat_nox, sat_nx, sat_rt, sat_bk, sat_ct, sat_sbad, sat_sif, sat_ofOut, sat_then, Out.bind_ok, startE, List.map_cons, List.map_nil, List.length_cons, List.length_nil, List.replicate_succ, List.replicate_zero, List.cons_append, List.nil_append, List.append_nil, List.set_cons_zero, List.set_cons_succ, Nat.reduceSub, Nat.reduceAdd, if_true, if_false, Bool.false_eq_true, oAdd_i, oSub_i, oMul_i, oDiv_i, oMod_i, oPow3_i, oNeg_i, oI_i, oLt_i, oEqS_s, oIsN_eq, oNotN_eq, truD_b, truD_i, bAbs_i, bInt_b, bInt_i, bMax2_i, bMin2_i, srcT_0, srcT_1, srcT_2, srcT_p0, srcT_p2, exitF_1, exitF_0, exitK_eq, decide_eq_true_eq, Nat.zero_add, if_f, eq_self, true_and, and_true, bLen_scr, bLen_lst, bLen_tup, bTuple_lst, bTuple_tup, bAny_b, bAll_b, bSortedSet_i, bSortedSetX_i, oEq_ii]
      · have e1 := decide_eq_true h1
        have e2 := decide_eq_false h2
        have p2 : decide (ds.length ≤ 6) = false := decide_eq_false (by omega)
        simp -implicitDefEqProofs only [e1, e2, planB, p2, Bool.and_false, Bool.false_and, Bool.not_false, exitF_len, sSeq, sAsg, sRet, sRetN, sIf, sExpr, sPar, sPar3, sNext, gBin, gUn, gAs, gChain, gIf, gB, gBM, gCall, aCons, aNil, gTru, bNot, bAnd, bOr, gAnd, gOr, gNot, L3.gTup, L3.gLst, gLstM, gCut, gPart, gFld, gDget1, gDisp, gPairs, gDnewK, nTup, nCons, nNil, nSub, nFld, nName_eq, gVar_0, gVar_s, gC_eq, cYes, sat_ok, sat_bad, sat_bind, sat_guard, sat_if, sat_nox, sat_nx, sat_rt, sat_bk, sat_ct, sat_sbad, sat_sif, sat_ofOut, sat_then, Out.bind_ok, startE, List.map_cons, List.map_nil, List.length_cons, List.length_nil, List.replicate_succ, List.replicate_zero, List.cons_append, List.nil_append, List.append_nil, List.set_cons_zero, List.set_cons_succ, Nat.reduceSub, Nat.reduceAdd, if_true, if_false, Bool.false_eq_true, oAdd_i, oSub_i, oMul_i, oDiv_i, oMod_i, oPow3_i, oNeg_i, oI_i, oLt_i, oEqS_s, oIsN_eq, oNotN_eq, truD_b, truD_i, bAbs_i, bInt_b, bInt_i, bMax2_i, bMin2_i, srcT_0, srcT_1, srcT_2, srcT_p0, srcT_p2, exitF_1, exitF_0, exitK_eq, decide_eq_true_eq, Nat.zero_add, if_f, eq_self, true_and, and_true, bLen_scr, bLen_lst, bLen_tup, bTuple_lst, bTuple_tup, bAny_b, bAll_b, bSortedSet_i, bSortedSetX_i, oEq_ii]
    · have e1 := decide_eq_false h1
      have p1 : decide (1 ≤ ds.length) = false := decide_eq_false (by omega)
      simp -implicitDefEqProofs only [e1, planB, p1, Bool.false_and, Bool.not_false, exitF_len, sSeq, sAsg, sRet, sRetN, sIf, sExpr, sPar, sPar3, sNext, gBin, gUn, gAs, gChain, gIf, gB, gBM, gCall, aCons, aNil, gTru, bNot, bAnd, bOr, gAnd, gOr, gNot, L3.gTup, L3.gLst, gLstM, gCut, gPart, gFld, gDget1, gDisp, gPairs, gDnewK, nTup, nCons, nNil, nSub, nFld, nName_eq, gVar_0, gVar_s, gC_eq, cYes, sat_ok, sat_bad, sat_bind, sat_guard, sat_if, sat_nox, sat_nx, sat_rt, sat_bk, sat_ct, sat_sbad, sat_sif, sat_ofOut, sat_then, Out.bind_ok, startE, List.map_cons, List.map_nil, List.length_cons, List.length_nil, List.replicate_succ, List.replicate_zero, List.cons_append, List.nil_append, List.append_nil, List.set_cons_zero, List.set_cons_succ, Nat.reduceSub, Nat.reduceAdd, if_true, if_false, Bool.false_eq_true, oAdd_i, oSub_i, oMul_i, oDiv_i, oMod_i, oPow3_i, oNeg_i, oI_i, oLt_i, oEqS_s, oIsN_eq, oNotN_eq, truD_b, truD_i, bAbs_i, bInt_b, bInt_i, bMax2_i, bMin2_i, srcT_0, srcT_1, srcT_2, srcT_p0, srcT_p2, exitF_1, exitF_0, exitK_eq, decide_eq_true_eq, Nat.zero_add, if_f, eq_self, true_and, and_true, bLen_scr, bLen_lst, bLen_tup, bTuple_lst, bTuple_tup, bAny_b, bAll_b, bSortedSet_i, bSortedSetX_i, oEq_ii]
  | _ => simp -implicitDefEqProofs only [isTup, planB, Bool.not_false, exitF_len, sSeq, sAsg, sRet, sRetN, sIf, sExpr, sPar, sPar3, sNext, gBin, gUn, gAs, gChain, gIf, gB, gBM, gCall, aCons, aNil, gTru, bNot, bAnd, bOr, gAnd, gOr, gNot, L3.gTup, L3.gLst, gLstM, gCut, gPart, gFld, gDget1, gDisp, gPairs, gDnewK, nTup, nCons, nNil, nSub, nFld, nName_eq, gVar_0, gVar_s, gC_eq, cYes, sat_ok, sat_bad, sat_bind, sat_guard, sat_if, sat_nox, sat_nx, sat_rt, sat_bk, sat_ct, sat_sbad, sat_sif, sat_ofOut, sat_then, Out.bind_ok, startE, List.map_cons, List.map_nil, List.length_cons, List.length_nil, List.replicate_succ, List.replicate_zero, List.cons_append, List.nil_append, List.append_nil, List.set_cons_zero, List.set_cons_succ, Nat.reduceSub, Nat.reduceAdd, if_true, if_false, Bool.false_eq_true, oAdd_i, oSub_i, oMul_i, oDiv_i, oMod_i, oPow3_i, oNeg_i, oI_i, oLt_i, oEqS_s, oIsN_eq, oNotN_eq, truD_b, truD_i, bAbs_i, bInt_b, bInt_i, bMax2_i, bMin2_i, srcT_0, srcT_1, srcT_2, srcT_p0, srcT_p2, exitF_1, exitF_0, exitK_eq, decide_eq_true_eq, Nat.zero_add, if_f, eq_self, true_and, and_true, bLen_scr, bLen_lst, bLen_tup, bTuple_lst, bTuple_tup, bAny_b, bAll_b, bSortedSet_i, bSortedSetX_i, oEq_ii]
end
end Wk
namespace Wk
open PySem PySem.Spec L2 L3
open PyProof.Rows hiding St
theorem Av.mono {n n' w w' : Nat} {B B' : Int} {d : D} (h : Av n w B d) (hn : n ≤ n') (hw : w ≤ w') (hB : B ≤ B') : Av n' w' B' d := by
  refine ⟨?_, Nat.le_trans h.dp hn, Nat.le_trans h.wt hw⟩
  have key : (∀ d, av B d = true → av B' d = true) := by
    intro d
    apply D.rec (motive_1 := fun d => av B d = true → av B' d = true) (motive_2 := fun ds => avs B ds = true → avs B' ds = true)
    case non => intro _; unfold av; rfl
    case bl => intro _ _; unfold av; rfl
    case int =>
      intro i h
      unfold av at h ⊢
      simp only [Bool.and_eq_true, decide_eq_true_eq] at h ⊢
      omega
    case str => intro x h; unfold av at h ⊢; exact h
    case ty => intro x h; unfold av at h; cases h
    case cls => intro x h; unfold av at h; cases h
    case tup => intro ds ih h; unfold av at h ⊢; exact ih h
    case lst => intro ds ih h; unfold av at h ⊢; exact ih h
    case dK =>
      intro ks ds ih h
      unfold av at h ⊢
      simp only [Bool.or_eq_true, Bool.and_eq_true] at h ⊢
      exact h.imp id fun q => ⟨q.1, q.2.1, ih q.2.2⟩
    case dT => intro ks ds ih h; unfold av at h; cases h
    case ins => intro c ns ds ih h; unfold av at h; cases h
    case exc => intro c ns ds ih h; unfold av at h; cases h
    case scr => intro ns h; unfold av at h; cases h
    case ref => intro k h; unfold av at h; cases h
    case nil => intro _; unfold avs; rfl
    case cons =>
      intro d ds ih1 ih2 h
      unfold avs at h ⊢
      simp only [Bool.and_eq_true] at h ⊢
      exact ⟨ih1 h.1, ih2 h.2⟩
  exact key d h.v
def avq (n w : Nat) (B : Int) (d : D) : Bool := av B d && (decide (dpx d ≤ n) && decide (wx d ≤ w))
theorem Av.of {n w : Nat} {B : Int} {d : D} (h : avq n w B d = true) : Av n w B d := by
  unfold avq at h
  simp only [Bool.and_eq_true, decide_eq_true_eq] at h
  exact ⟨h.1, h.2.1, h.2.2⟩
theorem Av.mem {n w : Nat} {B : Int} {d : D} {ds : List D} (h : ds.all (avq n w B) = true) (hd : d ∈ ds) : Av n w B d := .of (List.all_eq_true.mp h d hd)
section
variable {n w : Nat} {B : Int} {d e : D} {ds : List D}
theorem Av.tup1 (h : Av n w B d) : Av (n + 1) (w + 6) B (.tup [d]) := by
  have a := h.v; have b := h.dp; have c := h.wt
  refine ⟨by unfold av avs avs; rw [a]; rfl, by unfold dpx dpxs dpxs; omega, by unfold wx wxs wxs; omega⟩
end
section
variable {m : Sto} {en : Sl} {g : GE} {d : D}
end
theorem SrcR.cl {B : Int} {rest m : Sto} (h : SrcR B rest m) (c : Cl rest) : m.all (MO.bel m.length) = true := by rw [h.len]; exact h.all c
end Wk
namespace Wk
open PySem PySem.Spec L2 L3
open PyProof.Rows hiding St
section
variable {B : Int} {d : D} {m : Sto} {ns : List Int}
theorem intV_map (ns : List Int) : (ns.map D.int).map intV = ns := by rw [List.map_map]; exact List.map_id'' (fun _ => rfl) ns
theorem btws_of {lo hi : Int} {ns : List Int} : ((ns.map D.int).all (btw lo hi)) = ns.all fun x => decide (lo ≤ x) && decide (x ≤ hi) := by rw [List.all_map]; rfl
theorem mem_le_sum : ∀ {ns : List Int}, (∀ x ∈ ns, 1 ≤ x) → ∀ x ∈ ns, x ≤ ns.sum
  | [], _, x, hx => by cases hx
  | n :: ns, h, x, hx => by
    have h0 := sum_ge fun y hy => h y (List.mem_cons_of_mem n hy)
    have h1 := h n List.mem_cons_self
    rw [List.sum_cons]
    rcases List.mem_cons.mp hx with rfl | hx
    · omega
    · have := mem_le_sum (fun y hy => h y (List.mem_cons_of_mem n hy)) x hx
      omega
theorem planB_of (h : IsPlan ns) : planB (tupD ns) = true := by
  unfold planB tupD
  have h0 := List.length_pos_iff.mpr h.ne
  have h1 := h.len
  have h2 := h.sum
  simp only [List.length_map, intV_map, btws_of, Bool.and_eq_true, decide_eq_true_eq, List.all_eq_true]
  exact ⟨⟨by omega, h1⟩, fun x hx => ⟨h.lo x hx, by have := mem_le_sum h.lo x hx; omega⟩, h2⟩
theorem av_ints {ns : List Int} {C : Int} (h : ∀ x ∈ ns, -C ≤ x ∧ x ≤ C) : avs C (ns.map .int) = true := avs_iff.mpr fun d hd => by
  obtain ⟨x, hx, rfl⟩ := List.mem_map.mp hd
  obtain ⟨h1, h2⟩ := h x hx
  unfold av
  simp [h1, h2]
theorem wxs_ints (ns : List Int) : wxs (ns.map .int) = 2002 * ns.length := by
  induction ns with
  | nil => rfl
  | cons n ns ih => rw [List.map_cons, wxs, ih, wx, List.length_cons]; omega
theorem dpxs_ints (ns : List Int) : dpxs (ns.map .int) = 0 := by
  induction ns with
  | nil => rfl
  | cons n ns ih => rw [List.map_cons, dpxs, ih]; have e : dpx (.int n) = 0 := (by unfold dpx; rfl); rw [e]; rfl
theorem Av_tupD {C : Int} (h : ∀ x ∈ ns, -C ≤ x ∧ x ≤ C) : Av 1 (4 + 2002 * ns.length) C (tupD ns) :=
  ⟨by unfold tupD av; exact av_ints h, by unfold tupD dpx; rw [dpxs_ints]; exact Nat.le_refl _, by unfold tupD wx; rw [wxs_ints]; exact Nat.le_refl _⟩
theorem IsPlan.le (h : IsPlan ns) : ∀ x ∈ ns, -120 ≤ x ∧ x ≤ 120 := fun x hx => ⟨by have := h.lo x hx; omega, by have := mem_le_sum h.lo x hx; have := h.sum; omega⟩
theorem IsPlan.av (h : IsPlan ns) {C : Int} (hC : 120 ≤ C) : Av 1 12016 C (tupD ns) := (Av_tupD h.le).mono (Nat.le_refl _) (by have := h.len; omega) hC
end
end Wk
namespace Wk
open PySem PySem.Spec L2 L3
open PyProof.Rows hiding St
theorem ok_plan {B most : Int} {rest m : Sto} (h : SrcR B rest m) (hc : Cl rest) (hB : B ≤ 2 ^ 55) (h0 : 1 ≤ most) (h1 : most ≤ 20) : (m_Lplan [.ref 2, .int most] m).sat fun d m' => SrcR (B + 20) rest m' ∧ ∃ ns, d = tupD ns ∧ IsPlan ns := by
  have hml := h.len
  unfold m_Lplan
  rw [runF_sat]
  unfold g_Lplan
  simp -implicitDefEqProofs only [sSeq, sAsg, sRet, sRetN, sIf, sExpr, sPar, sPar3, sNext, gBin, gUn, gAs, gChain, gIf, gB, gBM, gCall, aCons, aNil, gTru, bNot, bAnd, bOr, gAnd, gOr, gNot, L3.gTup, L3.gLst, gLstM, gCut, gPart, gFld, gDget1, gDisp, gPairs, gDnewK, nTup, nCons, nNil, nSub, nFld, nName_eq, gVar_0, gVar_s, gC_eq, cYes, sat_ok, sat_bad, sat_bind, sat_guard, sat_if, sat_nox, sat_nx, sat_rt, sat_bk, sat_ct, sat_sbad, sat_sif, sat_ofOut, sat_then, Out.bind_ok, startE, List.map_cons, List.map_nil, List.length_cons, List.length_nil, List.replicate_succ, List.replicate_zero, List.cons_append, List.nil_append, List.append_nil, List.set_cons_zero, List.set_cons_succ, Nat.reduceSub, Nat.reduceAdd, if_true, if_false, Bool.false_eq_true, oAdd_i, oSub_i, oMul_i, oDiv_i, oMod_i, oPow3_i, oNeg_i, oI_i, oLt_i, oEqS_s, oIsN_eq, oNotN_eq, truD_b, truD_i, bAbs_i, bInt_b, bInt_i, bMax2_i, bMin2_i, srcT_0, srcT_1, srcT_2, srcT_p0, srcT_p2, exitF_1, exitF_0, exitK_eq, decide_eq_true_eq, Nat.zero_add, if_f, eq_self, true_and, and_true, bLen_scr, bLen_lst, bLen_tup, bTuple_lst, bTuple_tup, bAny_b, bAll_b, bSortedSet_i, bSortedSetX_i, oEq_ii]
  refine (ok_draw h (by omega) (by omega) (by omega)).mono fun d m1 ⟨v, e, v0, v1, hs1⟩ => ?_
  subst e
  simp -implicitDefEqProofs only [sSeq, sAsg, sRet, sRetN, sIf, sExpr, sPar, sPar3, sNext, gBin, gUn, gAs, gChain, gIf, gB, gBM, gCall, aCons, aNil, gTru, bNot, bAnd, bOr, gAnd, gOr, gNot, L3.gTup, L3.gLst, gLstM, gCut, gPart, gFld, gDget1, gDisp, gPairs, gDnewK, nTup, nCons, nNil, nSub, nFld, nName_eq, gVar_0, gVar_s, gC_eq, cYes, sat_ok, sat_bad, sat_bind, sat_guard, sat_if, sat_nox, sat_nx, sat_rt, sat_bk, sat_ct, sat_sbad, sat_sif, sat_ofOut, sat_then, Out.bind_ok, startE, List.map_cons, List.map_nil, List.length_cons, List.length_nil, List.replicate_succ, List.replicate_zero, List.cons_append, List.nil_append, List.append_nil, List.set_cons_zero, List.set_cons_succ, Nat.reduceSub, Nat.reduceAdd, if_true, if_false, Bool.false_eq_true, oAdd_i, oSub_i, oMul_i, oDiv_i, oMod_i, oPow3_i, oNeg_i, oI_i, oLt_i, oEqS_s, oIsN_eq, oNotN_eq, truD_b, truD_i, bAbs_i, bInt_b, bInt_i, bMax2_i, bMin2_i, srcT_0, srcT_1, srcT_2, srcT_p0, srcT_p2, exitF_1, exitF_0, exitK_eq, decide_eq_true_eq, Nat.zero_add, if_f, eq_self, true_and, and_true, bLen_scr, bLen_lst, bLen_tup, bTuple_lst, bTuple_tup, bAny_b, bAll_b, bSortedSet_i, bSortedSetX_i, oEq_ii]
  refine ⟨by rw [sizeLine_eq]; decide, ?_⟩
  have hl1 := hs1.len
  rw [hl1]
  refine for_sat (fun src i en m' => src.lives = [] ∧ src.items.length ≤ 5 ∧ i ≤ src.items.length ∧ ∃ (ns : List Int) (x3 x4 : Option D), en = [some (.ref 2), some (.int most), some (.ref (rest.length + 3)), x3, x4] ∧ SrcR (B + 2 + 2 * i) (rest ++ [.lst (ns.map .int)]) m' ∧ ns.length = i + 1 ∧ (∀ x ∈ ns, 1 ≤ x) ∧ ns.sum ≤ 20 + 20 * i)
    (Out.sat.mono (P := fun src m' => ∃ n, src = ⟨rng 0 n, []⟩ ∧ n ≤ 5 ∧ SrcR (B + 2) (rest ++ [.lst ([1 + v].map .int)]) m') ?hi fun src m' ⟨n, e, hn, hs⟩ => ⟨?_, ⟨by rw [e], by rw [e]; show (rng 0 n).length ≤ 5; rw [rng_length]; exact hn, Nat.zero_le _, [1 + v], _, _, rfl, hs.mono (by omega), rfl, by simp; omega, by simp; omega⟩, ?_, ?_⟩)
  case hi =>
    refine iRange1_sat ?_
    simp -implicitDefEqProofs only [sSeq, sAsg, sRet, sRetN, sIf, sExpr, sPar, sPar3, sNext, gBin, gUn, gAs, gChain, gIf, gB, gBM, gCall, aCons, aNil, gTru, bNot, bAnd, bOr, gAnd, gOr, gNot, L3.gTup, L3.gLst, gLstM, gCut, gPart, gFld, gDget1, gDisp, gPairs, gDnewK, nTup, nCons, nNil, nSub, nFld, nName_eq, gVar_0, gVar_s, gC_eq, cYes, sat_ok, sat_bad, sat_bind, sat_guard, sat_if, sat_nox, sat_nx, sat_rt, sat_bk, sat_ct, sat_sbad, sat_sif, sat_ofOut, sat_then, Out.bind_ok, startE, List.map_cons, List.map_nil, List.length_cons, List.length_nil, List.replicate_succ, List.replicate_zero, List.cons_append, List.nil_append, List.append_nil, List.set_cons_zero, List.set_cons_succ, Nat.reduceSub, Nat.reduceAdd, if_true, if_false, Bool.false_eq_true, oAdd_i, oSub_i, oMul_i, oDiv_i, oMod_i, oPow3_i, oNeg_i, oI_i, oLt_i, oEqS_s, oIsN_eq, oNotN_eq, truD_b, truD_i, bAbs_i, bInt_b, bInt_i, bMax2_i, bMin2_i, srcT_0, srcT_1, srcT_2, srcT_p0, srcT_p2, exitF_1, exitF_0, exitK_eq, decide_eq_true_eq, Nat.zero_add, if_f, eq_self, true_and, and_true, bLen_scr, bLen_lst, bLen_tup, bTuple_lst, bTuple_tup, bAny_b, bAll_b, bSortedSet_i, bSortedSetX_i, oEq_ii]
    refine ⟨by rw [sizeLine_eq]; decide, (ok_choice (hs1.push _) (by omega) (by simp) (by simp)).mono fun d m2 ⟨hd, hs2⟩ => ?_⟩
    have : ∃ j : Int, d = .int j ∧ 0 ≤ j ∧ j ≤ 5 := by
      simp only [List.mem_cons, List.not_mem_nil, or_false] at hd
      rcases hd with rfl | rfl | rfl | rfl | rfl | rfl | rfl <;> exact ⟨_, rfl, by decide, by decide⟩
    obtain ⟨j, rfl, j0, j1⟩ := this
    exact ⟨j, rfl, by omega, by omega, _, rfl, by omega, hs2.mono (by omega)⟩
  · rintro i en m ⟨e, _⟩
    exact Src.ok_of fun p hp => by rw [e] at hp; cases hp
  · rintro i d en m2 hd ⟨e1, e2, _, ns, x3, x4, rfl, hs2, hl, hlo, hsum⟩
    have hi := (List.getElem?_eq_some_iff.mp hd).1
    have at1 : ∀ {B m}, SrcR B (rest ++ [.lst (ns.map .int)]) m → m[rest.length + 3]? = some (.lst (ns.map .int)) := fun q => by
      rw [q.get]; simp
    simp -implicitDefEqProofs only [sSeq, sAsg, sRet, sRetN, sIf, sExpr, sPar, sPar3, sNext, gBin, gUn, gAs, gChain, gIf, gB, gBM, gCall, aCons, aNil, gTru, bNot, bAnd, bOr, gAnd, gOr, gNot, L3.gTup, L3.gLst, gLstM, gCut, gPart, gFld, gDget1, gDisp, gPairs, gDnewK, nTup, nCons, nNil, nSub, nFld, nName_eq, gVar_0, gVar_s, gC_eq, cYes, sat_ok, sat_bad, sat_bind, sat_guard, sat_if, sat_nox, sat_nx, sat_rt, sat_bk, sat_ct, sat_sbad, sat_sif, sat_ofOut, sat_then, Out.bind_ok, startE, List.map_cons, List.map_nil, List.length_cons, List.length_nil, List.replicate_succ, List.replicate_zero, List.cons_append, List.nil_append, List.append_nil, List.set_cons_zero, List.set_cons_succ, Nat.reduceSub, Nat.reduceAdd, if_true, if_false, Bool.false_eq_true, oAdd_i, oSub_i, oMul_i, oDiv_i, oMod_i, oPow3_i, oNeg_i, oI_i, oLt_i, oEqS_s, oIsN_eq, oNotN_eq, truD_b, truD_i, bAbs_i, bInt_b, bInt_i, bMax2_i, bMin2_i, srcT_0, srcT_1, srcT_2, srcT_p0, srcT_p2, exitF_1, exitF_0, exitK_eq, decide_eq_true_eq, Nat.zero_add, if_f, eq_self, true_and, and_true, bLen_scr, bLen_lst, bLen_tup, bTuple_lst, bTuple_tup, bAny_b, bAll_b, bSortedSet_i, bSortedSetX_i, oEq_ii]
    refine (ok_draw hs2 (by omega) (by omega) (by omega)).mono fun d m3 ⟨v, e, v0, v1, hs3⟩ => ?_
    subst e
    have fin : ∀ (w : Int) (m4 : Sto), SrcR (B + 2 + 2 * i + 2) (rest ++ [.lst (ns.map .int)]) m4 → 0 ≤ w → w < 20 → mAppend (.ref (rest.length + 3)) [.int (1 + w)] m4 = .ok .non (m4.set (rest.length + 3) (.lst ((ns ++ [1 + w]).map .int))) ∧ SrcR (B + 2 + 2 * ((i + 1 : Nat) : Int)) (rest ++ [.lst ((ns ++ [1 + w]).map .int)]) (m4.set (rest.length + 3) (.lst ((ns ++ [1 + w]).map .int))) := fun w m4 q w0 w1 => by
      refine ⟨by rw [mAppend_lst (at1 q) (by rw [sizeLine_eq, List.length_map]; omega), List.map_append]; rfl, ?_⟩
      have := (q.set rest.length (.lst ((ns ++ [1 + w]).map .int))).mono (B' := B + 2 + 2 * ((i + 1 : Nat) : Int)) (by omega)
      rw [List.set_append_right _ _ (Nat.le_refl _)] at this
      simpa using this
    have inv : ∀ (w : Int) (m4 : Sto) (y3 y4 : Option D), SrcR (B + 2 + 2 * i + 2) (rest ++ [.lst (ns.map .int)]) m4 → 0 ≤ w → w < 20 → src.lives = [] ∧ src.items.length ≤ 5 ∧ i + 1 ≤ src.items.length ∧ ∃ (ns' : List Int) (x3 x4 : Option D), [some (D.ref 2), some (D.int most), some (D.ref (rest.length + 3)), y3, y4] = [some (.ref 2), some (.int most), some (.ref (rest.length + 3)), x3, x4] ∧ SrcR (B + 2 + 2 * ((i + 1 : Nat) : Int)) (rest ++ [.lst (ns'.map .int)]) (m4.set (rest.length + 3) (.lst ((ns ++ [1 + w]).map .int))) ∧ ns'.length = i + 1 + 1 ∧ (∀ x ∈ ns', 1 ≤ x) ∧ ns'.sum ≤ 20 + 20 * ((i + 1 : Nat) : Int) := fun w m4 y3 y4 q w0 w1 =>
      ⟨e1, e2, hi, ns ++ [1 + w], _, _, rfl, (fin w m4 q w0 w1).2, by simp [hl], fun x hx => by
        rcases List.mem_append.mp hx with hx | hx
        · exact hlo x hx
        · rw [List.mem_singleton.mp hx]; omega, by rw [sum_app]; omega⟩
    by_cases hv : 0 < v
    · simp -implicitDefEqProofs only [decide_eq_true hv, tyM_lst (at1 hs3), bSumS_ref (at1 hs3), sSeq, sAsg, sRet, sRetN, sIf, sExpr, sPar, sPar3, sNext, gBin, gUn, gAs, gChain, gIf, gB, gBM, gCall, aCons, aNil, gTru, bNot, bAnd, bOr, gAnd, gOr, gNot, L3.gTup, L3.gLst, gLstM, gCut, gPart, gFld, gDget1, gDisp, gPairs, gDnewK, nTup, nCons, nNil, nSub, nFld, nName_eq, gVar_0, gVar_s, gC_eq, cYes, sat_ok, sat_bad, sat_bind, sat_guard, sat_if, sat_nox, sat_nx, sat_rt, sat_bk, sat_ct, sat_sbad, sat_sif, sat_ofOut, sat_then, Out.bind_ok, startE, List.map_cons, List.map_nil, List.length_cons, List.length_nil, List.replicate_succ, List.replicate_zero, List.cons_append, List.nil_append, List.append_nil, List.set_cons_zero, List.set_cons_succ, Nat.reduceSub, Nat.reduceAdd, if_true, if_false, Bool.false_eq_true, oAdd_i, oSub_i, oMul_i, oDiv_i, oMod_i, oPow3_i, oNeg_i, oI_i, oLt_i, oEqS_s, oIsN_eq, oNotN_eq, truD_b, truD_i, bAbs_i, bInt_b, bInt_i, bMax2_i, bMin2_i, srcT_0, srcT_1, srcT_2, srcT_p0, srcT_p2, exitF_1, exitF_0, exitK_eq, decide_eq_true_eq, Nat.zero_add, if_f, eq_self, true_and, and_true, bLen_scr, bLen_lst, bLen_tup, bTuple_lst, bTuple_tup, bAny_b, bAll_b, bSortedSet_i, bSortedSetX_i, oEq_ii]
      refine (ok_draw hs3 (by omega) (by split <;> (try split) <;> omega) (by split <;> (try split) <;> omega)).mono fun d m4 ⟨w, e, w0, w1, hs4⟩ => ?_
      subst e
      have w2 : w < 20 := by split at w1 <;> (try split at w1) <;> omega
      have hs4' := hs4.mono (B' := B + 2 + 2 * i + 2) (by omega)
      rw [oAdd_i, sat_ok, (fin w m4 hs4' w0 w2).1, sat_ok]
      exact inv w m4 _ _ hs4' w0 w2
    · simp -implicitDefEqProofs only [decide_eq_false hv, tyM_lst (at1 hs3), sSeq, sAsg, sRet, sRetN, sIf, sExpr, sPar, sPar3, sNext, gBin, gUn, gAs, gChain, gIf, gB, gBM, gCall, aCons, aNil, gTru, bNot, bAnd, bOr, gAnd, gOr, gNot, L3.gTup, L3.gLst, gLstM, gCut, gPart, gFld, gDget1, gDisp, gPairs, gDnewK, nTup, nCons, nNil, nSub, nFld, nName_eq, gVar_0, gVar_s, gC_eq, cYes, sat_ok, sat_bad, sat_bind, sat_guard, sat_if, sat_nox, sat_nx, sat_rt, sat_bk, sat_ct, sat_sbad, sat_sif, sat_ofOut, sat_then, Out.bind_ok, startE, List.map_cons, List.map_nil, List.length_cons, List.length_nil, List.replicate_succ, List.replicate_zero, List.cons_append, List.nil_append, List.append_nil, List.set_cons_zero, List.set_cons_succ, Nat.reduceSub, Nat.reduceAdd, if_true, if_false, Bool.false_eq_true, oAdd_i, oSub_i, oMul_i, oDiv_i, oMod_i, oPow3_i, oNeg_i, oI_i, oLt_i, oEqS_s, oIsN_eq, oNotN_eq, truD_b, truD_i, bAbs_i, bInt_b, bInt_i, bMax2_i, bMin2_i, srcT_0, srcT_1, srcT_2, srcT_p0, srcT_p2, exitF_1, exitF_0, exitK_eq, decide_eq_true_eq, Nat.zero_add, if_f, eq_self, true_and, and_true, bLen_scr, bLen_lst, bLen_tup, bTuple_lst, bTuple_tup, bAny_b, bAll_b, bSortedSet_i, bSortedSetX_i, oEq_ii]
      refine (ok_draw hs3 (by omega) (by decide) (by decide)).mono fun d m4 ⟨w, e, w0, w1, hs4⟩ => ?_
      subst e
      have hs4' := hs4.mono (B' := B + 2 + 2 * i + 2) (by omega)
      rw [oAdd_i, sat_ok, (fin w m4 hs4' w0 w1).1, sat_ok]
      exact inv w m4 _ _ hs4' w0 w1
  · rintro en m2 ⟨e1, e2, hi, ns, x3, x4, rfl, hs2, hl, hlo, hsum⟩
    simp -implicitDefEqProofs only [sSeq, sAsg, sRet, sRetN, sIf, sExpr, sPar, sPar3, sNext, gBin, gUn, gAs, gChain, gIf, gB, gBM, gCall, aCons, aNil, gTru, bNot, bAnd, bOr, gAnd, gOr, gNot, L3.gTup, L3.gLst, gLstM, gCut, gPart, gFld, gDget1, gDisp, gPairs, gDnewK, nTup, nCons, nNil, nSub, nFld, nName_eq, gVar_0, gVar_s, gC_eq, cYes, sat_ok, sat_bad, sat_bind, sat_guard, sat_if, sat_nox, sat_nx, sat_rt, sat_bk, sat_ct, sat_sbad, sat_sif, sat_ofOut, sat_then, Out.bind_ok, startE, List.map_cons, List.map_nil, List.length_cons, List.length_nil, List.replicate_succ, List.replicate_zero, List.cons_append, List.nil_append, List.append_nil, List.set_cons_zero, List.set_cons_succ, Nat.reduceSub, Nat.reduceAdd, if_true, if_false, Bool.false_eq_true, oAdd_i, oSub_i, oMul_i, oDiv_i, oMod_i, oPow3_i, oNeg_i, oI_i, oLt_i, oEqS_s, oIsN_eq, oNotN_eq, truD_b, truD_i, bAbs_i, bInt_b, bInt_i, bMax2_i, bMin2_i, srcT_0, srcT_1, srcT_2, srcT_p0, srcT_p2, exitF_1, exitF_0, exitK_eq, decide_eq_true_eq, Nat.zero_add, if_f, eq_self, true_and, and_true, bLen_scr, bLen_lst, bLen_tup, bTuple_lst, bTuple_tup, bAny_b, bAll_b, bSortedSet_i, bSortedSetX_i, oEq_ii]
    have at1 : m2[rest.length + 3]? = some (.lst (ns.map .int)) := by rw [hs2.get]; simp
    rw [bTuple_ref at1, sat_ok, hml]
    obtain ⟨m0, e0, hs0⟩ := hs2.exit hc (d := .tup (ns.map .int)) (by unfold D.bel; exact bels_map fun _ _ => by unfold D.bel; rfl)
    rw [e0, sat_ok]
    exact ⟨hs0.mono (by omega), ns, rfl, fun e => (by rw [e] at hl; simp at hl), by omega, hlo, by omega⟩
end Wk
namespace Wk
open PySem PySem.Spec L2 L3
open PyProof.Rows hiding St
section
variable {f g : GS} {en en1 : Sl} {m m1 m2 : Sto} {gs : GA} {i j : Nat} {a b d : D} {ge : GE} {c : GB} {ds : List D}
theorem seq_nx (h : f en m = .nx en1 m1) : sSeq f g en m = g en1 m1 := by
  unfold sSeq
  rw [h, SO.then_nx]
theorem par_nx (h : gs en m = .ok [a, b] m1) : sPar i j gs en m = .nx ((en.set i (some a)).set j (some b)) m1 := by
  unfold sPar
  rw [h, SO.ofOut_ok]
theorem asg_nx (h : ge en m = .ok d m1) : sAsg ge (nName i) en m = .nx (en.set i (some d)) m1 := by
  unfold sAsg
  rw [h, SO.ofOut_ok]
  rfl
theorem expr_nx (h : ge en m = .ok d m1) : sExpr ge en m = .nx en m1 := by
  unfold sExpr
  rw [h, SO.ofOut_ok]
theorem if_no (h : c en m = .ok false m1) : sIf c f g en m = g en m1 := by
  unfold sIf
  rw [h, SO.ofOut_ok]
  rfl
theorem if_yes (h : c en m = .ok true m1) : sIf c f g en m = f en m1 := by
  unfold sIf
  rw [h, SO.ofOut_ok]
  rfl
theorem acons {r : GA} (h1 : ge en m = .ok d m1) (h2 : r en m1 = .ok ds m2) : aCons ge r en m = .ok (d :: ds) m2 := by
  unfold aCons
  simp only [h1, h2, Out.bind_ok]
theorem anil : aNil en m = .ok [] m := rfl
theorem gb_ok {f : FM} (h : gs en m = .ok ds m1) : gB f gs en m = f ds m1 := by
  unfold gB
  rw [h]
  rfl
end
theorem keep_ref {n k : Nat} (h : k < n) : keepB n (some (.ref k)) = some (.ref k) := by
  show (if D.bel n (.ref k) = true then _ else _) = _
  rw [if_pos (by unfold D.bel; exact decide_eq_true h)]
theorem SrcR.one {B : Int} {m : Sto} (h : SrcR B [] m) : m.all (MO.bel m.length) = true := h.cl Cl.nil
end Wk
namespace Wk
open PySem PySem.Spec L2 L3
open PyProof.Rows hiding St
mutual
theorem D.belMono {n k : Nat} (h : n ≤ k) : ∀ {d : D}, D.bel n d = true → D.bel k d = true
  | .non, _ => by unfold D.bel; rfl
  | .bl _, _ => by unfold D.bel; rfl
  | .int _, _ => by unfold D.bel; rfl
  | .str _, _ => by unfold D.bel; rfl
  | .ty _, _ => by unfold D.bel; rfl
  | .cls _, _ => by unfold D.bel; rfl
  | .scr _, _ => by unfold D.bel; rfl
  | .tup ds, q => by unfold D.bel at q ⊢; exact D.belsMono h q
  | .lst ds, q => by unfold D.bel at q ⊢; exact D.belsMono h q
  | .dK _ ds, q => by unfold D.bel at q ⊢; exact D.belsMono h q
  | .dT _ ds, q => by unfold D.bel at q ⊢; exact D.belsMono h q
  | .ins _ _ ds, q => by unfold D.bel at q ⊢; exact D.belsMono h q
  | .exc _ _ ds, q => by unfold D.bel at q ⊢; exact D.belsMono h q
  | .ref j, q => by
    unfold D.bel at q ⊢
    have := of_decide_eq_true q
    exact decide_eq_true (by omega)
theorem D.belsMono {n k : Nat} (h : n ≤ k) : ∀ {ds : List D}, D.bels n ds = true → D.bels k ds = true
  | [], _ => by unfold D.bels; rfl
  | d :: ds, q => by
    unfold D.bels at q ⊢
    rw [Bool.and_eq_true] at q ⊢
    exact ⟨D.belMono h q.1, D.belsMono h q.2⟩
end
theorem MO.belMono {n k : Nat} (h : n ≤ k) {o : MO} (q : MO.bel n o = true) : MO.bel k o = true := by
  cases o <;> first | exact D.belsMono h q | rfl
theorem all_belMono {m : Sto} {n k : Nat} (h : n ≤ k) (q : m.all (MO.bel n) = true) : m.all (MO.bel k) = true := by
  rw [List.all_eq_true] at q ⊢
  exact fun o ho => MO.belMono h (q o ho)
end Wk
namespace Wk
open PySem PySem.Spec L2 L3
open PyProof.Rows hiding St
abbrev Th : Type := Int × List Int × Int
def thD (x : Th) : D := .tup [.int x.1, tupD x.2.1, .int x.2.2]
theorem thD_eq (x : Th) : thD x = .tup [.int x.1, .tup (x.2.1.map .int), .int x.2.2] := rfl
def hldT (x : Th) : Int := (x.2.1.take x.2.2.toNat).sum
def ndT (x : Th) : Int := (x.2.1.drop x.2.2.toNat).sum
def heldT (l : List Th) : Int := (l.map hldT).sum
structure ThOk (x : Th) : Prop where
  plan : IsPlan x.2.1
  p0 : 0 ≤ x.2.2
  p1 : x.2.2 < x.2.1.length
theorem hldT_nn {x : Th} (h : IsPlan x.2.1) : 0 ≤ hldT x := sum_nn fun y hy => by have := h.lo y (List.mem_of_mem_take hy); omega
def ThsAt (m : Sto) (d : D) (l : List Th) : Prop := ∃ src, srcOf m d = some src ∧ src.items = l.map thD ∧ src.ok m = true
theorem ThsAt.lst {m : Sto} {l : List Th} : ThsAt m (.lst (l.map thD)) l := ⟨⟨l.map thD, []⟩, rfl, rfl, Src.ok_fixed _ _⟩
theorem ThsAt.tup {m : Sto} {l : List Th} : ThsAt m (.tup (l.map thD)) l := ⟨⟨l.map thD, []⟩, rfl, rfl, Src.ok_fixed _ _⟩
theorem ThsAt.ref {m : Sto} {k : Nat} {l : List Th} (h : m[k]? = some (.lst (l.map thD))) : ThsAt m (.ref k) l := ⟨⟨l.map thD, [(k, l.map thD)]⟩, by unfold srcOf; simp only [h], rfl, Src.ok_one h⟩
section
variable {m : Sto}
theorem sumTup (ns : List Int) : bSumS [.tup (ns.map .int)] m = .ok (.int ns.sum) m := by
  unfold bSumS seqInts seqOf
  simp only [Option.bind_some, intsOf_map]
theorem sumLst (ns : List Int) : bSumS [.lst (ns.map .int)] m = .ok (.int ns.sum) m := by
  unfold bSumS seqInts seqOf lstOf
  simp only [Option.bind_some, intsOf_map]
theorem hld_ok {x : Th} (h : 0 ≤ x.2.2) : bSumS [.tup (L3.cutD (x.2.1.map .int) none (some x.2.2))] m = .ok (.int (hldT x)) m := by
  rw [cut_up h, ← List.map_take, sumTup]; rfl
theorem nd_ok {x : Th} (h : 0 ≤ x.2.2) : bSumS [.tup (L3.cutD (x.2.1.map .int) (some x.2.2) none)] m = .ok (.int (ndT x)) m := by
  rw [cut_lo h, ← List.map_drop, sumTup]; rfl
end
end Wk
namespace Wk
open PySem PySem.Spec L2 L3
open PyProof.Rows hiding St
def outOf (ts R : List Int) : List Int := ts.filter fun t => decide (t ∉ R)
theorem outOf_mem {ts R : List Int} {t : Int} : t ∈ outOf ts R ↔ t ∈ ts ∧ t ∉ R := by
  unfold outOf
  rw [List.mem_filter]; simp
theorem outOf_append {ts R : List Int} {p : Int → Bool} : outOf ts (R ++ (outOf ts R).filter p) = (outOf ts R).filter fun t => !p t := by
  unfold outOf
  refine Eq.trans ?_ List.filter_filter.symm
  refine List.filter_congr fun t ht => ?_
  have : (t ∉ R ++ (ts.filter fun t => decide (t ∉ R)).filter p) ↔ (t ∉ R ∧ ¬ p t = true) := by
    rw [List.mem_append, List.mem_filter, List.mem_filter]
    simp only [decide_eq_true_eq]
    constructor
    · intro h
      exact ⟨fun q => h (.inl q), fun q => h (.inr ⟨⟨ht, fun z => h (.inl z)⟩, q⟩)⟩
    · rintro ⟨h1, h2⟩ (q | q)
      · exact h1 q
      · exact h2 q.2
  rw [Bool.eq_iff_iff, decide_eq_true_eq, this]
  by_cases a : t ∈ R <;> by_cases b : p t = true <;> simp [a, b]
section
variable {m : Sto} {f : Int → Th} {free : Int}
abbrev ndF (f : Int → Th) (t : Int) : Int := ndT (f t)
abbrev hdF (f : Int → Th) (t : Int) : Int := hldT (f t)
abbrev thF (f : Int → Th) (t : Int) : D := thD (f t)
theorem eqvTh (hf : ∀ t, (f t).1 = t) {x y : Int} : PyData.eqv (pd (thF f x)) (pd (thF f y)) = (x == y) := by
  by_cases e : x = y
  · subst e
    rw [eqv_pd]; simp
  · have : (x == y) = false := by simp [e]
    rw [this]
    unfold thF thD
    rw [hf x, hf y]
    unfold pd pds pds pds pds
    simp only [PyData.eqv, PyData.eqvAll]
    have e2 : PyData.eqv (pd (.int x)) (pd (.int y)) = (x == y) := by unfold pd; simp [PyData.eqv]
    rw [e2, this]
    rfl
theorem dpTup (n : Nat) (ns : List Int) : D.dp (n + 1) (tupD ns) = true := by
  unfold tupD D.dp
  rw [dps_all, List.all_eq_true]
  intro d hd
  obtain ⟨x, _, rfl⟩ := List.mem_map.mp hd
  unfold D.dp; rfl
theorem dpTh (n : Nat) (x : Th) : D.dp (n + 2) (thD x) = true := by
  unfold thD
  have h1 := dpTup n x.2.1
  have hi : ∀ i : Int, D.dp (n + 1) (.int i) = true := fun i => by unfold D.dp; rfl
  unfold D.dp D.dps D.dps D.dps D.dps
  rw [hi, hi, h1]; rfl
theorem inXnil {x : D} : oInX true x (.lst []) m = (if flatD x = true then .ok (.bl true) m else if D.dp 60 x = true then .ok (.bl true) m else .bad) := by
  unfold oInX
  have hs : seqOf m (.lst []) = some [] := rfl
  simp only [hs, List.all_nil, and_true]
  split
  · rfl
  · have hv : viewL m (.lst []) = .lst [] := rfl
    have hd : D.dp 60 (.lst []) = true := by unfold D.dp D.dps; rfl
    simp only [hv, hd, and_true]
    unfold pds
    rfl
theorem inXTh (hf : ∀ t, (f t).1 = t) {t : Int} {ts : List Int} (hne : ts ≠ []) : oInX true (thF f t) (.lst (ts.map (thF f))) m = .ok (.bl (!decide (t ∈ ts))) m := by
  unfold oInX
  have hs : seqOf m (.lst (ts.map (thF f))) = some (ts.map (thF f)) := rfl
  have hfl : flatD (thF f t) = false := rfl
  simp only [hs, hfl]
  rw [if_neg (by simp)]
  have hv : viewL m (.lst (ts.map (thF f))) = .lst (ts.map (thF f)) := rfl
  simp only [hv]
  rw [if_pos]
  · simp only [if_true]
    rw [pds_map, List.map_map, List.any_map]
    congr 2
    have : ∀ ts : List Int, (ts.any ((fun z => PyData.eqv z (pd (thF f t))) ∘ (pd ∘ thF f))) = decide (t ∈ ts) := by
      intro ts
      induction ts with
      | nil => simp
      | cons y ts ih =>
        rw [List.any_cons, ih]
        simp only [Function.comp]
        rw [eqvTh hf]
        by_cases e : y = t
        · simp [e]
        · have e' : ¬ t = y := fun q => e q.symm
          simp [e, e']
    rw [this ts]
  · refine ⟨dpTh 58 _, ?_⟩
    unfold D.dp
    rw [dps_all, List.all_eq_true]
    intro d hd
    obtain ⟨y, hy, rfl⟩ := List.mem_map.mp hd
    exact dpTh 57 _
theorem oEqThs {l : List Th} : oEq false (.lst (l.map thD)) (.lst []) m = .ok (.bl l.isEmpty) m := by
  have e : PyData.eqv (pd (.lst (l.map thD))) (pd (.lst [])) = l.isEmpty := by
    cases l with
    | nil => unfold pd PyData.eqv; rfl
    | cons p ps => unfold pd; simp only [List.map_cons, pds]; unfold PyData.eqv; rfl
  unfold oEq viewL
  rw [if_pos ⟨by
    unfold D.dp
    rw [dps_all, List.all_eq_true]
    intro d hd
    obtain ⟨y, hy, rfl⟩ := List.mem_map.mp hd
    exact dpTh 57 y, by unfold D.dp; rfl⟩]
  simp only [e]
  rfl
theorem ok_lostP {ts : List Int} (hf : ∀ t, (f t).1 = t) (h0 : ∀ t, 0 ≤ hdF f t) (hp : ∀ t, 0 ≤ (f t).2.2) (n : ts.Nodup) (hl : ts.length ≤ 100000) :
    (m_lost_among [.int free, .lst (ts.map (thF f))] m).sat fun d m' => m' = m ∧ ∃ R, Fin (ndF f) (hdF f) free ts R ∧ d = .tup ((outOf ts R).map .int) := by
  unfold m_lost_among
  rw [runF_sat]
  unfold g_lost_among
  have elist : bList [.lst (ts.map (thF f))] m = .ok (.lst (ts.map (thF f))) m := rfl
  simp -implicitDefEqProofs only [elist, sSeq, sAsg, sRet, sRetN, sIf, sExpr, sPar, sPar3, sNext, gBin, gUn, gAs, gChain, gIf, gB, gBM, gCall, aCons, aNil, gTru, bNot, bAnd, bOr, gAnd, gOr, gNot, L3.gTup, L3.gLst, gLstM, gCut, gPart, gFld, gDget1, gDisp, gPairs, gDnewK, nTup, nCons, nNil, nSub, nFld, nName_eq, gVar_0, gVar_s, gC_eq, cYes, sat_ok, sat_bad, sat_bind, sat_guard, sat_if, sat_nox, sat_nx, sat_rt, sat_bk, sat_ct, sat_sbad, sat_sif, sat_ofOut, sat_then, Out.bind_ok, startE, List.map_cons, List.map_nil, List.length_cons, List.length_nil, List.replicate_succ, List.replicate_zero, List.cons_append, List.nil_append, List.append_nil, List.set_cons_zero, List.set_cons_succ, Nat.reduceSub, Nat.reduceAdd, if_true, if_false, Bool.false_eq_true, oAdd_i, oSub_i, oMul_i, oDiv_i, oMod_i, oPow3_i, oNeg_i, oI_i, oLt_i, oEqS_s, oIsN_eq, oNotN_eq, truD_b, truD_i, bAbs_i, bInt_b, bInt_i, bMax2_i, bMin2_i, srcT_0, srcT_1, srcT_2, srcT_p0, srcT_p2, exitF_1, exitF_0, exitK_eq, decide_eq_true_eq, Nat.zero_add, if_f, eq_self, true_and, and_true, bLen_scr, bLen_lst, bLen_tup, bTuple_lst, bTuple_tup, bAny_b, bAll_b, bSortedSet_i, bSortedSetX_i, oEq_ii]
  refine while_sat (fun k en m' => m' = m ∧ ∃ (R : List Int) (b : Bool) (x1 x4 x5 x6 x7 x8 : Option D), en = [some (.int (free + sumH (hdF f) R)), x1, some (.lst ((outOf ts R).map (thF f))), some (.bl b), x4, x5, x6, x7, x8] ∧ R.Nodup ∧ (∀ t ∈ R, t ∈ ts) ∧ FinSeq (ndF f) (hdF f) free R ∧
    (b = true → ∀ t ∈ ts, t ∉ R → free + sumH (hdF f) R < ndF f t) ∧ k = if b = true then 0 else (outOf ts R).length + 1) ?_
    (k := ts.length + 1) ⟨rfl, [], false, some (.lst (ts.map (thF f))), none, none, none, none, none, ?_, List.nodup_nil, (fun t h => by cases h), trivial, (fun h => by cases h), ?_⟩
  · rintro k en m' ⟨rfl, R, b, x1, x4, x5, x6, x7, x8, rfl, hn, hs, hfs, hb, hkk⟩
    have hlR : (outOf ts R).length ≤ ts.length := List.length_filter_le _ _
    cases b with
    | true =>
      simp -implicitDefEqProofs only [Bool.not_true, sSeq, sAsg, sRet, sRetN, sIf, sExpr, sPar, sPar3, sNext, gBin, gUn, gAs, gChain, gIf, gB, gBM, gCall, aCons, aNil, gTru, bNot, bAnd, bOr, gAnd, gOr, gNot, L3.gTup, L3.gLst, gLstM, gCut, gPart, gFld, gDget1, gDisp, gPairs, gDnewK, nTup, nCons, nNil, nSub, nFld, nName_eq, gVar_0, gVar_s, gC_eq, cYes, sat_ok, sat_bad, sat_bind, sat_guard, sat_if, sat_nox, sat_nx, sat_rt, sat_bk, sat_ct, sat_sbad, sat_sif, sat_ofOut, sat_then, Out.bind_ok, startE, List.map_cons, List.map_nil, List.length_cons, List.length_nil, List.replicate_succ, List.replicate_zero, List.cons_append, List.nil_append, List.append_nil, List.set_cons_zero, List.set_cons_succ, Nat.reduceSub, Nat.reduceAdd, if_true, if_false, Bool.false_eq_true, oAdd_i, oSub_i, oMul_i, oDiv_i, oMod_i, oPow3_i, oNeg_i, oI_i, oLt_i, oEqS_s, oIsN_eq, oNotN_eq, truD_b, truD_i, bAbs_i, bInt_b, bInt_i, bMax2_i, bMin2_i, srcT_0, srcT_1, srcT_2, srcT_p0, srcT_p2, exitF_1, exitF_0, exitK_eq, decide_eq_true_eq, Nat.zero_add, if_f, eq_self, true_and, and_true, bLen_scr, bLen_lst, bLen_tup, bTuple_lst, bTuple_tup, bAny_b, bAll_b, bSortedSet_i, bSortedSetX_i, oEq_ii]
      refine sat_of (lc_mapA (src := ⟨(outOf ts R).map (thF f), []⟩) (thF f) (fun _ => true) (fun t => .int t) rfl rfl (Src.ok_fixed _ _) (by rw [sizeLine_eq]; omega) ?_) ?_
      · intro t ht
        rw [thF, thD_eq, hf t]
        simp -implicitDefEqProofs only [tupOf, wipeE, sSeq, sAsg, sRet, sRetN, sIf, sExpr, sPar, sPar3, sNext, gBin, gUn, gAs, gChain, gIf, gB, gBM, gCall, aCons, aNil, gTru, bNot, bAnd, bOr, gAnd, gOr, gNot, L3.gTup, L3.gLst, gLstM, gCut, gPart, gFld, gDget1, gDisp, gPairs, gDnewK, nTup, nCons, nNil, nSub, nFld, nName_eq, gVar_0, gVar_s, gC_eq, cYes, sat_ok, sat_bad, sat_bind, sat_guard, sat_if, sat_nox, sat_nx, sat_rt, sat_bk, sat_ct, sat_sbad, sat_sif, sat_ofOut, sat_then, Out.bind_ok, startE, List.map_cons, List.map_nil, List.length_cons, List.length_nil, List.replicate_succ, List.replicate_zero, List.cons_append, List.nil_append, List.append_nil, List.set_cons_zero, List.set_cons_succ, Nat.reduceSub, Nat.reduceAdd, if_true, if_false, Bool.false_eq_true, oAdd_i, oSub_i, oMul_i, oDiv_i, oMod_i, oPow3_i, oNeg_i, oI_i, oLt_i, oEqS_s, oIsN_eq, oNotN_eq, truD_b, truD_i, bAbs_i, bInt_b, bInt_i, bMax2_i, bMin2_i, srcT_0, srcT_1, srcT_2, srcT_p0, srcT_p2, exitF_1, exitF_0, exitK_eq, decide_eq_true_eq, Nat.zero_add, if_f, eq_self, true_and, and_true, bLen_scr, bLen_lst, bLen_tup, bTuple_lst, bTuple_tup, bAny_b, bAll_b, bSortedSet_i, bSortedSetX_i, oEq_ii]
        exact fun _ => trivial
      · rw [List.filter_eq_self.mpr fun _ _ => rfl]
        simp -implicitDefEqProofs only [sSeq, sAsg, sRet, sRetN, sIf, sExpr, sPar, sPar3, sNext, gBin, gUn, gAs, gChain, gIf, gB, gBM, gCall, aCons, aNil, gTru, bNot, bAnd, bOr, gAnd, gOr, gNot, L3.gTup, L3.gLst, gLstM, gCut, gPart, gFld, gDget1, gDisp, gPairs, gDnewK, nTup, nCons, nNil, nSub, nFld, nName_eq, gVar_0, gVar_s, gC_eq, cYes, sat_ok, sat_bad, sat_bind, sat_guard, sat_if, sat_nox, sat_nx, sat_rt, sat_bk, sat_ct, sat_sbad, sat_sif, sat_ofOut, sat_then, Out.bind_ok, startE, List.map_cons, List.map_nil, List.length_cons, List.length_nil, List.replicate_succ, List.replicate_zero, List.cons_append, List.nil_append, List.append_nil, List.set_cons_zero, List.set_cons_succ, Nat.reduceSub, Nat.reduceAdd, if_true, if_false, Bool.false_eq_true, oAdd_i, oSub_i, oMul_i, oDiv_i, oMod_i, oPow3_i, oNeg_i, oI_i, oLt_i, oEqS_s, oIsN_eq, oNotN_eq, truD_b, truD_i, bAbs_i, bInt_b, bInt_i, bMax2_i, bMin2_i, srcT_0, srcT_1, srcT_2, srcT_p0, srcT_p2, exitF_1, exitF_0, exitK_eq, decide_eq_true_eq, Nat.zero_add, if_f, eq_self, true_and, and_true, bLen_scr, bLen_lst, bLen_tup, bTuple_lst, bTuple_tup, bAny_b, bAll_b, bSortedSet_i, bSortedSetX_i, oEq_ii]
        rw [exitF_len rfl, sat_ok]
        exact ⟨rfl, R, ⟨hn, hs, hfs, hb rfl⟩, rfl⟩
    | false =>
      simp -implicitDefEqProofs only [Bool.not_false, sSeq, sAsg, sRet, sRetN, sIf, sExpr, sPar, sPar3, sNext, gBin, gUn, gAs, gChain, gIf, gB, gBM, gCall, aCons, aNil, gTru, bNot, bAnd, bOr, gAnd, gOr, gNot, L3.gTup, L3.gLst, gLstM, gCut, gPart, gFld, gDget1, gDisp, gPairs, gDnewK, nTup, nCons, nNil, nSub, nFld, nName_eq, gVar_0, gVar_s, gC_eq, cYes, sat_ok, sat_bad, sat_bind, sat_guard, sat_if, sat_nox, sat_nx, sat_rt, sat_bk, sat_ct, sat_sbad, sat_sif, sat_ofOut, sat_then, Out.bind_ok, startE, List.map_cons, List.map_nil, List.length_cons, List.length_nil, List.replicate_succ, List.replicate_zero, List.cons_append, List.nil_append, List.append_nil, List.set_cons_zero, List.set_cons_succ, Nat.reduceSub, Nat.reduceAdd, if_true, if_false, Bool.false_eq_true, oAdd_i, oSub_i, oMul_i, oDiv_i, oMod_i, oPow3_i, oNeg_i, oI_i, oLt_i, oEqS_s, oIsN_eq, oNotN_eq, truD_b, truD_i, bAbs_i, bInt_b, bInt_i, bMax2_i, bMin2_i, srcT_0, srcT_1, srcT_2, srcT_p0, srcT_p2, exitF_1, exitF_0, exitK_eq, decide_eq_true_eq, Nat.zero_add, if_f, eq_self, true_and, and_true, bLen_scr, bLen_lst, bLen_tup, bTuple_lst, bTuple_tup, bAny_b, bAll_b, bSortedSet_i, bSortedSetX_i, oEq_ii]
      refine sat_of (lc_mapA (src := ⟨(outOf ts R).map (thF f), []⟩) (thF f) (fun t => decide (ndF f t ≤ free + sumH (hdF f) R)) (thF f) rfl rfl (Src.ok_fixed _ _) (by rw [sizeLine_eq]; omega) ?_) ?_
      · intro t ht
        have hn' := @nd_ok m' (f t) (hp t)
        rw [show thF f t = .tup [.int (f t).1, .tup ((f t).2.1.map .int), .int (f t).2.2] from rfl]
        have i1 : ∀ (a b c : D) m', oIx (.tup [a, b, c]) (.int 1) m' = .ok b m' := fun _ _ _ _ => rfl
        have i2 : ∀ (a b c : D) m', oIx (.tup [a, b, c]) (.int 2) m' = .ok c m' := fun _ _ _ _ => rfl
        simp -implicitDefEqProofs only [tupOf, wipeE, i1, i2, hn', sSeq, sAsg, sRet, sRetN, sIf, sExpr, sPar, sPar3, sNext, gBin, gUn, gAs, gChain, gIf, gB, gBM, gCall, aCons, aNil, gTru, bNot, bAnd, bOr, gAnd, gOr, gNot, L3.gTup, L3.gLst, gLstM, gCut, gPart, gFld, gDget1, gDisp, gPairs, gDnewK, nTup, nCons, nNil, nSub, nFld, nName_eq, gVar_0, gVar_s, gC_eq, cYes, sat_ok, sat_bad, sat_bind, sat_guard, sat_if, sat_nox, sat_nx, sat_rt, sat_bk, sat_ct, sat_sbad, sat_sif, sat_ofOut, sat_then, Out.bind_ok, startE, List.map_cons, List.map_nil, List.length_cons, List.length_nil, List.replicate_succ, List.replicate_zero, List.cons_append, List.nil_append, List.append_nil, List.set_cons_zero, List.set_cons_succ, Nat.reduceSub, Nat.reduceAdd, if_true, if_false, Bool.false_eq_true, oAdd_i, oSub_i, oMul_i, oDiv_i, oMod_i, oPow3_i, oNeg_i, oI_i, oLt_i, oEqS_s, oIsN_eq, oNotN_eq, truD_b, truD_i, bAbs_i, bInt_b, bInt_i, bMax2_i, bMin2_i, srcT_0, srcT_1, srcT_2, srcT_p0, srcT_p2, exitF_1, exitF_0, exitK_eq, decide_eq_true_eq, Nat.zero_add, if_f, eq_self, true_and, and_true, bLen_scr, bLen_lst, bLen_tup, bTuple_lst, bTuple_tup, bAny_b, bAll_b, bSortedSet_i, bSortedSetX_i, oEq_ii]
        exact fun _ => trivial
      · generalize hD : ((outOf ts R).filter fun t => decide (ndF f t ≤ free + sumH (hdF f) R)) = dn
        have hdm : ∀ t ∈ dn, t ∈ outOf ts R ∧ ndF f t ≤ free + sumH (hdF f) R := fun t ht => by
          rw [← hD, List.mem_filter] at ht
          exact ⟨ht.1, of_decide_eq_true ht.2⟩
        have hdl : dn.length ≤ ts.length := by rw [← hD]; exact Nat.le_trans (List.length_filter_le _ _) hlR
        have e1 : oEq false (.lst (dn.map (thF f))) (.lst []) m' = .ok (.bl dn.isEmpty) m' := by
          have := @oEqThs m' (dn.map f)
          rw [List.map_map] at this
          rw [show (dn.map f).isEmpty = dn.isEmpty by cases dn <;> rfl] at this
          exact this
        simp -implicitDefEqProofs only [e1, sAug, List.getElem?_cons_zero, sSeq, sAsg, sRet, sRetN, sIf, sExpr, sPar, sPar3, sNext, gBin, gUn, gAs, gChain, gIf, gB, gBM, gCall, aCons, aNil, gTru, bNot, bAnd, bOr, gAnd, gOr, gNot, L3.gTup, L3.gLst, gLstM, gCut, gPart, gFld, gDget1, gDisp, gPairs, gDnewK, nTup, nCons, nNil, nSub, nFld, nName_eq, gVar_0, gVar_s, gC_eq, cYes, sat_ok, sat_bad, sat_bind, sat_guard, sat_if, sat_nox, sat_nx, sat_rt, sat_bk, sat_ct, sat_sbad, sat_sif, sat_ofOut, sat_then, Out.bind_ok, startE, List.map_cons, List.map_nil, List.length_cons, List.length_nil, List.replicate_succ, List.replicate_zero, List.cons_append, List.nil_append, List.append_nil, List.set_cons_zero, List.set_cons_succ, Nat.reduceSub, Nat.reduceAdd, if_true, if_false, Bool.false_eq_true, oAdd_i, oSub_i, oMul_i, oDiv_i, oMod_i, oPow3_i, oNeg_i, oI_i, oLt_i, oEqS_s, oIsN_eq, oNotN_eq, truD_b, truD_i, bAbs_i, bInt_b, bInt_i, bMax2_i, bMin2_i, srcT_0, srcT_1, srcT_2, srcT_p0, srcT_p2, exitF_1, exitF_0, exitK_eq, decide_eq_true_eq, Nat.zero_add, if_f, eq_self, true_and, and_true, bLen_scr, bLen_lst, bLen_tup, bTuple_lst, bTuple_tup, bAny_b, bAll_b, bSortedSet_i, bSortedSetX_i, oEq_ii]
        refine ⟨Nat.zero_le _, ?_⟩
        refine sat_of (lc_mapA (src := ⟨dn.map (thF f), []⟩) (thF f) (fun _ => true) (fun t => .int (hdF f t)) rfl rfl (Src.ok_fixed _ _) (by rw [sizeLine_eq]; omega) ?_) ?_
        · intro t ht
          have hh' := @hld_ok m' (f t) (hp t)
          rw [show thF f t = .tup [.int (f t).1, .tup ((f t).2.1.map .int), .int (f t).2.2] from rfl]
          simp -implicitDefEqProofs only [tupOf, wipeE, hh', sSeq, sAsg, sRet, sRetN, sIf, sExpr, sPar, sPar3, sNext, gBin, gUn, gAs, gChain, gIf, gB, gBM, gCall, aCons, aNil, gTru, bNot, bAnd, bOr, gAnd, gOr, gNot, L3.gTup, L3.gLst, gLstM, gCut, gPart, gFld, gDget1, gDisp, gPairs, gDnewK, nTup, nCons, nNil, nSub, nFld, nName_eq, gVar_0, gVar_s, gC_eq, cYes, sat_ok, sat_bad, sat_bind, sat_guard, sat_if, sat_nox, sat_nx, sat_rt, sat_bk, sat_ct, sat_sbad, sat_sif, sat_ofOut, sat_then, Out.bind_ok, startE, List.map_cons, List.map_nil, List.length_cons, List.length_nil, List.replicate_succ, List.replicate_zero, List.cons_append, List.nil_append, List.append_nil, List.set_cons_zero, List.set_cons_succ, Nat.reduceSub, Nat.reduceAdd, if_true, if_false, Bool.false_eq_true, oAdd_i, oSub_i, oMul_i, oDiv_i, oMod_i, oPow3_i, oNeg_i, oI_i, oLt_i, oEqS_s, oIsN_eq, oNotN_eq, truD_b, truD_i, bAbs_i, bInt_b, bInt_i, bMax2_i, bMin2_i, srcT_0, srcT_1, srcT_2, srcT_p0, srcT_p2, exitF_1, exitF_0, exitK_eq, decide_eq_true_eq, Nat.zero_add, if_f, eq_self, true_and, and_true, bLen_scr, bLen_lst, bLen_tup, bTuple_lst, bTuple_tup, bAny_b, bAll_b, bSortedSet_i, bSortedSetX_i, oEq_ii]
          exact fun _ => trivial
        · rw [List.filter_eq_self.mpr fun _ _ => rfl]
          have em : dn.map (fun t => D.int (hdF f t)) = (dn.map (hdF f)).map D.int := by rw [List.map_map]; rfl
          rw [em, sumLst, sat_ok]
          simp -implicitDefEqProofs only [oAddI, sSeq, sAsg, sRet, sRetN, sIf, sExpr, sPar, sPar3, sNext, gBin, gUn, gAs, gChain, gIf, gB, gBM, gCall, aCons, aNil, gTru, bNot, bAnd, bOr, gAnd, gOr, gNot, L3.gTup, L3.gLst, gLstM, gCut, gPart, gFld, gDget1, gDisp, gPairs, gDnewK, nTup, nCons, nNil, nSub, nFld, nName_eq, gVar_0, gVar_s, gC_eq, cYes, sat_ok, sat_bad, sat_bind, sat_guard, sat_if, sat_nox, sat_nx, sat_rt, sat_bk, sat_ct, sat_sbad, sat_sif, sat_ofOut, sat_then, Out.bind_ok, startE, List.map_cons, List.map_nil, List.length_cons, List.length_nil, List.replicate_succ, List.replicate_zero, List.cons_append, List.nil_append, List.append_nil, List.set_cons_zero, List.set_cons_succ, Nat.reduceSub, Nat.reduceAdd, if_true, if_false, Bool.false_eq_true, oAdd_i, oSub_i, oMul_i, oDiv_i, oMod_i, oPow3_i, oNeg_i, oI_i, oLt_i, oEqS_s, oIsN_eq, oNotN_eq, truD_b, truD_i, bAbs_i, bInt_b, bInt_i, bMax2_i, bMin2_i, srcT_0, srcT_1, srcT_2, srcT_p0, srcT_p2, exitF_1, exitF_0, exitK_eq, decide_eq_true_eq, Nat.zero_add, if_f, eq_self, true_and, and_true, bLen_scr, bLen_lst, bLen_tup, bTuple_lst, bTuple_tup, bAny_b, bAll_b, bSortedSet_i, bSortedSetX_i, oEq_ii]
          refine sat_of (lc_mapA (src := ⟨(outOf ts R).map (thF f), []⟩) (thF f) (fun t => !decide (t ∈ dn)) (thF f) rfl rfl (Src.ok_fixed _ _) (by rw [sizeLine_eq]; omega) ?_) ?_
          · intro t ht
            have ein : oInX true (thF f t) (.lst (dn.map (thF f))) m' = .ok (.bl (!decide (t ∈ dn))) m' := by
              by_cases hne : dn = []
              · rw [hne, List.map_nil, inXnil, if_neg (by show ¬ flatD (thD (f t)) = true; exact Bool.false_ne_true), if_pos (dpTh 58 (f t))]
                simp
              · exact inXTh hf hne
            simp -implicitDefEqProofs only [wipeE, ein, sSeq, sAsg, sRet, sRetN, sIf, sExpr, sPar, sPar3, sNext, gBin, gUn, gAs, gChain, gIf, gB, gBM, gCall, aCons, aNil, gTru, bNot, bAnd, bOr, gAnd, gOr, gNot, L3.gTup, L3.gLst, gLstM, gCut, gPart, gFld, gDget1, gDisp, gPairs, gDnewK, nTup, nCons, nNil, nSub, nFld, nName_eq, gVar_0, gVar_s, gC_eq, cYes, sat_ok, sat_bad, sat_bind, sat_guard, sat_if, sat_nox, sat_nx, sat_rt, sat_bk, sat_ct, sat_sbad, sat_sif, sat_ofOut, sat_then, Out.bind_ok, startE, List.map_cons, List.map_nil, List.length_cons, List.length_nil, List.replicate_succ, List.replicate_zero, List.cons_append, List.nil_append, List.append_nil, List.set_cons_zero, List.set_cons_succ, Nat.reduceSub, Nat.reduceAdd, if_true, if_false, Bool.false_eq_true, oAdd_i, oSub_i, oMul_i, oDiv_i, oMod_i, oPow3_i, oNeg_i, oI_i, oLt_i, oEqS_s, oIsN_eq, oNotN_eq, truD_b, truD_i, bAbs_i, bInt_b, bInt_i, bMax2_i, bMin2_i, srcT_0, srcT_1, srcT_2, srcT_p0, srcT_p2, exitF_1, exitF_0, exitK_eq, decide_eq_true_eq, Nat.zero_add, if_f, eq_self, true_and, and_true, bLen_scr, bLen_lst, bLen_tup, bTuple_lst, bTuple_tup, bAny_b, bAll_b, bSortedSet_i, bSortedSetX_i, oEq_ii]
            exact fun _ => trivial
          · have eo : (outOf ts R).filter (fun t => !decide (t ∈ dn)) = outOf ts (R ++ dn) := by
              rw [← hD, outOf_append]
              refine List.filter_congr fun t ht => ?_
              congr 1
              rw [decide_eq_decide, List.mem_filter]
              simp [ht]
            rw [eo]
            simp -implicitDefEqProofs only [sSeq, sAsg, sRet, sRetN, sIf, sExpr, sPar, sPar3, sNext, gBin, gUn, gAs, gChain, gIf, gB, gBM, gCall, aCons, aNil, gTru, bNot, bAnd, bOr, gAnd, gOr, gNot, L3.gTup, L3.gLst, gLstM, gCut, gPart, gFld, gDget1, gDisp, gPairs, gDnewK, nTup, nCons, nNil, nSub, nFld, nName_eq, gVar_0, gVar_s, gC_eq, cYes, sat_ok, sat_bad, sat_bind, sat_guard, sat_if, sat_nox, sat_nx, sat_rt, sat_bk, sat_ct, sat_sbad, sat_sif, sat_ofOut, sat_then, Out.bind_ok, startE, List.map_cons, List.map_nil, List.length_cons, List.length_nil, List.replicate_succ, List.replicate_zero, List.cons_append, List.nil_append, List.append_nil, List.set_cons_zero, List.set_cons_succ, Nat.reduceSub, Nat.reduceAdd, if_true, if_false, Bool.false_eq_true, oAdd_i, oSub_i, oMul_i, oDiv_i, oMod_i, oPow3_i, oNeg_i, oI_i, oLt_i, oEqS_s, oIsN_eq, oNotN_eq, truD_b, truD_i, bAbs_i, bInt_b, bInt_i, bMax2_i, bMin2_i, srcT_0, srcT_1, srcT_2, srcT_p0, srcT_p2, exitF_1, exitF_0, exitK_eq, decide_eq_true_eq, Nat.zero_add, if_f, eq_self, true_and, and_true, bLen_scr, bLen_lst, bLen_tup, bTuple_lst, bTuple_tup, bAny_b, bAll_b, bSortedSet_i, bSortedSetX_i, oEq_ii]
            have es : free + sumH (hdF f) R + (dn.map (hdF f)).sum = free + sumH (hdF f) (R ++ dn) := by
              rw [sumH_append]; unfold sumH; omega
            rw [es]
            refine ⟨if dn.isEmpty = true then 0 else (outOf ts (R ++ dn)).length + 1, ?_, R ++ dn, dn.isEmpty, _, _, _, _, _, _, rfl, ?_, ?_, ?_, ?_, rfl⟩
            · rw [hkk]
              by_cases hne : dn = []
              · subst hne
                simp
              · have hie : dn.isEmpty = false := by cases dn with
                  | nil => exact absurd rfl hne
                  | cons _ _ => rfl
                rw [hie]
                simp only [Bool.false_eq_true, if_false]
                have := filter_len (fun t => decide (ndF f t ≤ free + sumH (hdF f) R)) (outOf ts R)
                have e3 := outOf_append (ts := ts) (R := R) (p := fun t => decide (ndF f t ≤ free + sumH (hdF f) R))
                rw [hD] at this e3
                rw [e3]
                have := List.length_pos_iff.mpr hne
                omega
            · rw [List.nodup_append]
              refine ⟨hn, by rw [← hD]; exact (n.filter _).filter _, fun a ha b hb e => ?_⟩
              rw [e] at ha
              exact (outOf_mem.mp (hdm b hb).1).2 ha
            · intro t ht
              rcases List.mem_append.mp ht with h | h
              · exact hs t h
              · exact (outOf_mem.mp (hdm t h).1).1
            · exact hfs.append (FinSeq.all h0 fun t ht => (hdm t ht).2)
            · intro he t ht hnt
              have hnil : dn = [] := by simpa using he
              rw [hnil, List.append_nil] at hnt ⊢
              have : t ∉ dn := by rw [hnil]; simp
              rw [← hD, List.mem_filter] at this
              apply Int.lt_of_not_ge
              intro hle
              exact this ⟨outOf_mem.mpr ⟨ht, hnt⟩, decide_eq_true hle⟩
  · rw [sumH_nil, Int.add_zero]
    have : outOf ts [] = ts := by unfold outOf; rw [List.filter_eq_self]; simp
    rw [this]
  · have : outOf ts [] = ts := by unfold outOf; rw [List.filter_eq_self]; simp
    rw [this]; simp
end
end Wk
namespace Wk
open PySem PySem.Spec L2 L3
open PyProof.Rows hiding St
def thN (l : List Th) (t : Int) : Th := match l.find? (fun x => x.1 == t) with
  | some x => x
  | none => (t, [], 0)
def begT (l : List Th) : List Th := l.filter fun x => decide (0 < x.2.2)
def numT (l : List Th) : List Int := l.map (·.1)
theorem thN_1 (l : List Th) (t : Int) : (thN l t).1 = t := by
  unfold thN
  split
  · rename_i x e
    have := List.find?_some e
    exact beq_iff_eq.mp this
  · rfl
theorem thN_cases (l : List Th) (t : Int) : thN l t ∈ l ∨ thN l t = (t, [], 0) := by
  unfold thN
  split
  · rename_i x e
    exact .inl (List.mem_of_find?_eq_some e)
  · exact .inr rfl
theorem thN_mem : ∀ {l : List Th} {x : Th}, (numT l).Nodup → x ∈ l → thN l x.1 = x
  | [], x, _, h => by cases h
  | y :: l, x, n, h => by
    have n' := List.nodup_cons.mp (show (y.1 :: numT l).Nodup from n)
    unfold thN
    rw [List.find?_cons]
    rcases List.mem_cons.mp h with e | e
    · subst e; simp
    · have hne : (y.1 == x.1) = false := by
        rw [beq_eq_false_iff_ne]
        intro q
        exact n'.1 (by rw [q]; exact List.mem_map.mpr ⟨x, e, rfl⟩)
      rw [hne]
      exact thN_mem n'.2 e
theorem thN_p0 {l : List Th} (h : ∀ x ∈ l, ThOk x) (t : Int) : 0 ≤ (thN l t).2.2 := by
  rcases thN_cases l t with q | q
  · exact (h _ q).p0
  · rw [q]; exact Int.le_refl 0
theorem thN_h0 {l : List Th} (h : ∀ x ∈ l, ThOk x) (t : Int) : 0 ≤ hdF (thN l) t := by
  unfold hdF
  rcases thN_cases l t with q | q
  · exact hldT_nn (h _ q).plan
  · rw [q]; exact Int.le_refl _
theorem beg_mem {l : List Th} {x : Th} : x ∈ begT l ↔ x ∈ l ∧ 0 < x.2.2 := by unfold begT; rw [List.mem_filter, decide_eq_true_eq]
theorem beg_sub (l : List Th) : (numT (begT l)).Sublist (numT l) := (List.filter_sublist).map _
theorem beg_map {l : List Th} (n : (numT l).Nodup) : (numT (begT l)).map (thN l) = begT l := by
  unfold numT
  rw [List.map_map]
  refine (List.map_congr_left fun x hx => ?_).trans (List.map_id _)
  exact thN_mem n (beg_mem.mp hx).1
theorem beg_mapD {l : List Th} (n : (numT l).Nodup) : (begT l).map thD = (numT (begT l)).map (thF (thN l)) := by
  conv => lhs; rw [← beg_map n]
  rw [List.map_map]; rfl
def IsLost (free : Int) (l : List Th) (x : List Int) : Prop := ∃ R, Fin (ndF (thN l)) (hdF (thN l)) free (numT (begT l)) R ∧ x = outOf (numT (begT l)) R
theorem outOf_congrP {ks R G : List Int} (h : ∀ t, t ∈ R ↔ t ∈ G) : outOf ks R = outOf ks G := by
  unfold outOf
  refine List.filter_congr fun x _ => ?_
  rw [Bool.eq_iff_iff, decide_eq_true_eq, decide_eq_true_eq, h]
theorem IsLost.same {free : Int} {l : List Th} {x y : List Int} (ok : ∀ x ∈ l, ThOk x) (a : IsLost free l x) (b : IsLost free l y) : x = y := by
  obtain ⟨R, f, rfl⟩ := a
  obtain ⟨S, g, rfl⟩ := b
  exact outOf_congrP (f.same (thN_h0 ok) g)
theorem IsLost.len {free : Int} {l : List Th} {x : List Int} (a : IsLost free l x) : x.length ≤ l.length := by
  obtain ⟨R, f, rfl⟩ := a
  exact Nat.le_trans (List.length_filter_le _ _) (by unfold numT; rw [List.length_map]; exact List.length_filter_le _ _)
theorem IsLost.mem {free : Int} {l : List Th} {x : List Int} (a : IsLost free l x) {t : Int} (h : t ∈ x) : t ∈ numT l := by
  obtain ⟨R, f, rfl⟩ := a
  exact (beg_sub l).subset (outOf_mem.mp h).1
section
variable {m : Sto}
theorem ok_lost_amongP {free : Int} {l : List Th} (ok : ∀ x ∈ l, ThOk x) (n : (numT l).Nodup) (hl : l.length ≤ 100) : ∃ x, IsLost free l x ∧ m_lost_among [.int free, .lst ((begT l).map thD)] m = .ok (.tup (x.map .int)) m := by
  have hn := n.sublist (beg_sub l)
  have h := ok_lostP (m := m) (free := free) (f := thN l) (thN_1 l) (thN_h0 ok) (thN_p0 ok) hn (by
    have := (beg_sub l).length_le
    have : (numT l).length = l.length := List.length_map _
    omega)
  obtain ⟨d, m', e, rfl, R, hf, rfl⟩ := h.ex
  exact ⟨_, ⟨R, hf, rfl⟩, by rw [beg_mapD n]; exact e⟩
end
end Wk
namespace Wk
open PySem PySem.Spec L2 L3
open PyProof.Rows hiding St
abbrev PSt : Type := Int × List Th
def stP (s : PSt) : D := .tup [.int s.1, .tup (s.2.map thD)]
def flP (r : Nat) (W : Int) (c : Bool) (s : PSt) : List (Str × D) := [("whole", .int W), ("is_careful", .bl c), ("present", stP s), ("past", .ref r)]
abbrev IsP (q r : Nat) (m : Sto) (W : Int) (c : Bool) (s : PSt) : Prop := insOf m (.ref q) = some ((("Pool" : String) : Str), flP r W c s)
def nxT (x : Th) : Int := x.2.1.getD x.2.2.toNat 0
section
variable {q r : Nat} {m : Sto} {W : Int} {c : Bool} {s : PSt} {en : Sl} {go : GE}
theorem lkW : List.lookup (("whole" : String) : Str) (flP r W c s) = some (.int W) := rfl
theorem lkC : List.lookup (("is_careful" : String) : Str) (flP r W c s) = some (.bl c) := rfl
theorem lkP : List.lookup (("present" : String) : Str) (flP r W c s) = some (stP s) := rfl
theorem lkA : List.lookup (("past" : String) : Str) (flP r W c s) = some (.ref r) := rfl
theorem stP1 : oIx (stP s) (.int 1) m = .ok (.tup (s.2.map thD)) m := rfl
theorem nx_ok {x : Th} (h : ThOk x) : oIx (.tup (x.2.1.map .int)) (.int x.2.2) m = .ok (.int (nxT x)) m := by
  have h0 := h.p0
  have h1 := h.p1
  have hi : x.2.2.toNat < x.2.1.length := by omega
  refine oIx_seq (ds := x.2.1.map .int) rfl (fun _ => nofun) h0 ?_
  unfold nxT
  rw [List.getElem?_map, List.getD_eq_getElem?_getD, List.getElem?_eq_getElem hi]
  rfl
theorem propN {F : FM} {d : D} (h : go en m = .ok (.ref q) m) (hi : IsP q r m W c s) (hF : F [.ref q] m = .ok d m) : gNoX (gProp "Pool" F go) en m = .ok d m := by
  unfold gNoX gProp
  simp only [h, Out.bind_ok, hi, if_true, hF]
theorem meth0 {F : FM} {x : Str} {d : D} {m1 : Sto} (h : go en m = .ok (.ref q) m) (hi : IsP q r m W c s) (hx : (flP r W c s).lookup x = none) (hF : F [.ref q] m = .ok d m1) : gMeth "Pool" x 1 F go aNil en m = .ok d m1 := by
  unfold gMeth
  simp only [h, Out.bind_ok, hi, hx, and_self, if_true, aNil, List.length_nil, Nat.zero_add, hF]
theorem runRet {n : Nat} {g : GE} {ds : List D} {d : D} (h : g (startE n ds) m = .ok d m) : runF exitF n (sRet g) ds m = .ok d m := by
  unfold runF sRet
  rw [h]
  exact exitF_len rfl
theorem andB {g h : GE} {a b : Bool} (hg : g en m = .ok (.bl a) m) (hh : h en m = .ok (.bl b) m) : gAnd g h en m = .ok (.bl (a && b)) m := by
  unfold gAnd
  rw [hg, Out.bind_ok]
  cases a
  · rfl
  · exact hh
theorem ok_free (hi : IsP q r m W c s) (ok : ∀ x ∈ s.2, ThOk x) (hl : s.2.length ≤ 100) : m_Pool_free [.ref q] m = .ok (.int (W - heldT s.2)) m := by
  refine eq_of_sat' ?_
  unfold m_Pool_free
  rw [runF_sat]
  unfold g_Pool_free
  simp -implicitDefEqProofs only [hi, lkW, sSeq, sAsg, sRet, sRetN, sIf, sExpr, sPar, sPar3, sNext, gBin, gUn, gAs, gChain, gIf, gB, gBM, gCall, aCons, aNil, gTru, bNot, bAnd, bOr, gAnd, gOr, gNot, L3.gTup, L3.gLst, gLstM, gCut, gPart, gFld, gDget1, gDisp, gPairs, gDnewK, nTup, nCons, nNil, nSub, nFld, nName_eq, gVar_0, gVar_s, gC_eq, cYes, sat_ok, sat_bad, sat_bind, sat_guard, sat_if, sat_nox, sat_nx, sat_rt, sat_bk, sat_ct, sat_sbad, sat_sif, sat_ofOut, sat_then, Out.bind_ok, startE, List.map_cons, List.map_nil, List.length_cons, List.length_nil, List.replicate_succ, List.replicate_zero, List.cons_append, List.nil_append, List.append_nil, List.set_cons_zero, List.set_cons_succ, Nat.reduceSub, Nat.reduceAdd, if_true, if_false, Bool.false_eq_true, oAdd_i, oSub_i, oMul_i, oDiv_i, oMod_i, oPow3_i, oNeg_i, oI_i, oLt_i, oEqS_s, oIsN_eq, oNotN_eq, truD_b, truD_i, bAbs_i, bInt_b, bInt_i, bMax2_i, bMin2_i, srcT_0, srcT_1, srcT_2, srcT_p0, srcT_p2, exitF_1, exitF_0, exitK_eq, decide_eq_true_eq, Nat.zero_add, if_f, eq_self, true_and, and_true, bLen_scr, bLen_lst, bLen_tup, bTuple_lst, bTuple_tup, bAny_b, bAll_b, bSortedSet_i, bSortedSetX_i, oEq_ii]
  refine sat_of (lc_mapA (src := ⟨s.2.map thD, []⟩) (l := s.2) thD (fun _ => true) (fun x => .int (hldT x)) (by simp only [iSeq, gBin, gFld, gVar_0, gC_eq, Out.bind_ok, hi, lkP, if_true, stP1, srcOf]) rfl (Src.ok_fixed _ _) (by rw [sizeLine_eq]; omega) ?_) ?_
  · intro x hx
    have hh := @hld_ok m x (ok x hx).p0
    rw [thD_eq]
    simp -implicitDefEqProofs only [tupOf, wipeE, hh, sSeq, sAsg, sRet, sRetN, sIf, sExpr, sPar, sPar3, sNext, gBin, gUn, gAs, gChain, gIf, gB, gBM, gCall, aCons, aNil, gTru, bNot, bAnd, bOr, gAnd, gOr, gNot, L3.gTup, L3.gLst, gLstM, gCut, gPart, gFld, gDget1, gDisp, gPairs, gDnewK, nTup, nCons, nNil, nSub, nFld, nName_eq, gVar_0, gVar_s, gC_eq, cYes, sat_ok, sat_bad, sat_bind, sat_guard, sat_if, sat_nox, sat_nx, sat_rt, sat_bk, sat_ct, sat_sbad, sat_sif, sat_ofOut, sat_then, Out.bind_ok, startE, List.map_cons, List.map_nil, List.length_cons, List.length_nil, List.replicate_succ, List.replicate_zero, List.cons_append, List.nil_append, List.append_nil, List.set_cons_zero, List.set_cons_succ, Nat.reduceSub, Nat.reduceAdd, if_true, if_false, Bool.false_eq_true, oAdd_i, oSub_i, oMul_i, oDiv_i, oMod_i, oPow3_i, oNeg_i, oI_i, oLt_i, oEqS_s, oIsN_eq, oNotN_eq, truD_b, truD_i, bAbs_i, bInt_b, bInt_i, bMax2_i, bMin2_i, srcT_0, srcT_1, srcT_2, srcT_p0, srcT_p2, exitF_1, exitF_0, exitK_eq, decide_eq_true_eq, Nat.zero_add, if_f, eq_self, true_and, and_true, bLen_scr, bLen_lst, bLen_tup, bTuple_lst, bTuple_tup, bAny_b, bAll_b, bSortedSet_i, bSortedSetX_i, oEq_ii]
    exact fun _ => trivial
  · rw [List.filter_eq_self.mpr fun _ _ => rfl]
    have em : s.2.map (fun x => D.int (hldT x)) = (s.2.map hldT).map D.int := by rw [List.map_map]; rfl
    rw [em, sumLst, sat_ok]
    simp -implicitDefEqProofs only [sSeq, sAsg, sRet, sRetN, sIf, sExpr, sPar, sPar3, sNext, gBin, gUn, gAs, gChain, gIf, gB, gBM, gCall, aCons, aNil, gTru, bNot, bAnd, bOr, gAnd, gOr, gNot, L3.gTup, L3.gLst, gLstM, gCut, gPart, gFld, gDget1, gDisp, gPairs, gDnewK, nTup, nCons, nNil, nSub, nFld, nName_eq, gVar_0, gVar_s, gC_eq, cYes, sat_ok, sat_bad, sat_bind, sat_guard, sat_if, sat_nox, sat_nx, sat_rt, sat_bk, sat_ct, sat_sbad, sat_sif, sat_ofOut, sat_then, Out.bind_ok, startE, List.map_cons, List.map_nil, List.length_cons, List.length_nil, List.replicate_succ, List.replicate_zero, List.cons_append, List.nil_append, List.append_nil, List.set_cons_zero, List.set_cons_succ, Nat.reduceSub, Nat.reduceAdd, if_true, if_false, Bool.false_eq_true, oAdd_i, oSub_i, oMul_i, oDiv_i, oMod_i, oPow3_i, oNeg_i, oI_i, oLt_i, oEqS_s, oIsN_eq, oNotN_eq, truD_b, truD_i, bAbs_i, bInt_b, bInt_i, bMax2_i, bMin2_i, srcT_0, srcT_1, srcT_2, srcT_p0, srcT_p2, exitF_1, exitF_0, exitK_eq, decide_eq_true_eq, Nat.zero_add, if_f, eq_self, true_and, and_true, bLen_scr, bLen_lst, bLen_tup, bTuple_lst, bTuple_tup, bAny_b, bAll_b, bSortedSet_i, bSortedSetX_i, oEq_ii]
    rw [exitF_len rfl, sat_ok]
    exact ⟨rfl, rfl⟩
theorem ok_unf (hi : IsP q r m W c s) : m_Pool_unfinished [.ref q] m = .ok (.tup (s.2.map thD)) m := by
  refine eq_of_sat' ?_
  unfold m_Pool_unfinished
  rw [runF_sat]
  unfold g_Pool_unfinished
  simp -implicitDefEqProofs only [hi, lkP, stP1, sSeq, sAsg, sRet, sRetN, sIf, sExpr, sPar, sPar3, sNext, gBin, gUn, gAs, gChain, gIf, gB, gBM, gCall, aCons, aNil, gTru, bNot, bAnd, bOr, gAnd, gOr, gNot, L3.gTup, L3.gLst, gLstM, gCut, gPart, gFld, gDget1, gDisp, gPairs, gDnewK, nTup, nCons, nNil, nSub, nFld, nName_eq, gVar_0, gVar_s, gC_eq, cYes, sat_ok, sat_bad, sat_bind, sat_guard, sat_if, sat_nox, sat_nx, sat_rt, sat_bk, sat_ct, sat_sbad, sat_sif, sat_ofOut, sat_then, Out.bind_ok, startE, List.map_cons, List.map_nil, List.length_cons, List.length_nil, List.replicate_succ, List.replicate_zero, List.cons_append, List.nil_append, List.append_nil, List.set_cons_zero, List.set_cons_succ, Nat.reduceSub, Nat.reduceAdd, if_true, if_false, Bool.false_eq_true, oAdd_i, oSub_i, oMul_i, oDiv_i, oMod_i, oPow3_i, oNeg_i, oI_i, oLt_i, oEqS_s, oIsN_eq, oNotN_eq, truD_b, truD_i, bAbs_i, bInt_b, bInt_i, bMax2_i, bMin2_i, srcT_0, srcT_1, srcT_2, srcT_p0, srcT_p2, exitF_1, exitF_0, exitK_eq, decide_eq_true_eq, Nat.zero_add, if_f, eq_self, true_and, and_true, bLen_scr, bLen_lst, bLen_tup, bTuple_lst, bTuple_tup, bAny_b, bAll_b, bSortedSet_i, bSortedSetX_i, oEq_ii]
  rw [exitF_len rfl, sat_ok]
  exact ⟨rfl, rfl⟩
theorem bLenRef {k : Nat} {ds : List D} (h : m[k]? = some (.lst ds)) : bLen [.ref k] m = .ok (.int (ds.length : Nat)) m := by
  unfold bLen seqOf lstOf
  simp only [h]
theorem ok_started (hi : IsP q r m W c s) (hl : s.2.length ≤ 100) : m_Pool_started [.ref q] m = .ok (.lst ((begT s.2).map thD)) m := by
  refine eq_of_sat' ?_
  unfold m_Pool_started
  rw [runF_sat]
  unfold g_Pool_started
  simp -implicitDefEqProofs only [sSeq, sAsg, sRet, sRetN, sIf, sExpr, sPar, sPar3, sNext, gBin, gUn, gAs, gChain, gIf, gB, gBM, gCall, aCons, aNil, gTru, bNot, bAnd, bOr, gAnd, gOr, gNot, L3.gTup, L3.gLst, gLstM, gCut, gPart, gFld, gDget1, gDisp, gPairs, gDnewK, nTup, nCons, nNil, nSub, nFld, nName_eq, gVar_0, gVar_s, gC_eq, cYes, sat_ok, sat_bad, sat_bind, sat_guard, sat_if, sat_nox, sat_nx, sat_rt, sat_bk, sat_ct, sat_sbad, sat_sif, sat_ofOut, sat_then, Out.bind_ok, startE, List.map_cons, List.map_nil, List.length_cons, List.length_nil, List.replicate_succ, List.replicate_zero, List.cons_append, List.nil_append, List.append_nil, List.set_cons_zero, List.set_cons_succ, Nat.reduceSub, Nat.reduceAdd, if_true, if_false, Bool.false_eq_true, oAdd_i, oSub_i, oMul_i, oDiv_i, oMod_i, oPow3_i, oNeg_i, oI_i, oLt_i, oEqS_s, oIsN_eq, oNotN_eq, truD_b, truD_i, bAbs_i, bInt_b, bInt_i, bMax2_i, bMin2_i, srcT_0, srcT_1, srcT_2, srcT_p0, srcT_p2, exitF_1, exitF_0, exitK_eq, decide_eq_true_eq, Nat.zero_add, if_f, eq_self, true_and, and_true, bLen_scr, bLen_lst, bLen_tup, bTuple_lst, bTuple_tup, bAny_b, bAll_b, bSortedSet_i, bSortedSetX_i, oEq_ii]
  refine sat_of (lc_mapA (src := ⟨s.2.map thD, []⟩) (l := s.2) thD (fun x => decide (0 < x.2.2)) thD (by simp only [iSeq, gBin, gFld, gVar_0, gC_eq, Out.bind_ok, hi, lkP, if_true, stP1, srcOf]) rfl (Src.ok_fixed _ _) (by rw [sizeLine_eq]; omega) ?_) ?_
  · intro x hx
    have i2 : ∀ m', oIx (thD x) (.int 2) m' = .ok (.int x.2.2) m' := fun _ => rfl
    simp -implicitDefEqProofs only [wipeE, i2, oGt, sSeq, sAsg, sRet, sRetN, sIf, sExpr, sPar, sPar3, sNext, gBin, gUn, gAs, gChain, gIf, gB, gBM, gCall, aCons, aNil, gTru, bNot, bAnd, bOr, gAnd, gOr, gNot, L3.gTup, L3.gLst, gLstM, gCut, gPart, gFld, gDget1, gDisp, gPairs, gDnewK, nTup, nCons, nNil, nSub, nFld, nName_eq, gVar_0, gVar_s, gC_eq, cYes, sat_ok, sat_bad, sat_bind, sat_guard, sat_if, sat_nox, sat_nx, sat_rt, sat_bk, sat_ct, sat_sbad, sat_sif, sat_ofOut, sat_then, Out.bind_ok, startE, List.map_cons, List.map_nil, List.length_cons, List.length_nil, List.replicate_succ, List.replicate_zero, List.cons_append, List.nil_append, List.append_nil, List.set_cons_zero, List.set_cons_succ, Nat.reduceSub, Nat.reduceAdd, if_true, if_false, Bool.false_eq_true, oAdd_i, oSub_i, oMul_i, oDiv_i, oMod_i, oPow3_i, oNeg_i, oI_i, oLt_i, oEqS_s, oIsN_eq, oNotN_eq, truD_b, truD_i, bAbs_i, bInt_b, bInt_i, bMax2_i, bMin2_i, srcT_0, srcT_1, srcT_2, srcT_p0, srcT_p2, exitF_1, exitF_0, exitK_eq, decide_eq_true_eq, Nat.zero_add, if_f, eq_self, true_and, and_true, bLen_scr, bLen_lst, bLen_tup, bTuple_lst, bTuple_tup, bAny_b, bAll_b, bSortedSet_i, bSortedSetX_i, oEq_ii]
    exact fun _ => trivial
  · rw [exitF_len rfl, sat_ok]
    exact ⟨rfl, rfl⟩
theorem ok_lost (hi : IsP q r m W c s) (ok : ∀ x ∈ s.2, ThOk x) (n : (numT s.2).Nodup) (hl : s.2.length ≤ 100) : ∃ x, IsLost (W - heldT s.2) s.2 x ∧ m_Pool_lost [.ref q] m = .ok (.tup (x.map .int)) m := by
  obtain ⟨x, hx, e⟩ := ok_lost_amongP (m := m) (free := W - heldT s.2) ok n hl
  refine ⟨x, hx, runRet ?_⟩
  have e1 : gNoX (gProp "Pool" m_Pool_free (gVar 0)) [some (.ref q)] m = .ok (.int (W - heldT s.2)) m := propN rfl hi (ok_free hi ok hl)
  have e2 : gMeth "Pool" "started" 1 m_Pool_started (gVar 0) aNil [some (.ref q)] m = .ok (.lst ((begT s.2).map thD)) m := meth0 rfl hi rfl (ok_started hi hl)
  show gCall 2 m_lost_among _ [some (.ref q)] m = _
  unfold gCall
  rw [acons e1 (acons e2 anil)]
  exact e
end
end Wk
namespace Wk
open PySem PySem.Spec L2 L3
open PyProof.Rows hiding St
section
variable {q r : Nat} {m : Sto} {W : Int} {c : Bool} {s : PSt} {en : Sl} {go : GE}
theorem ok_len (hi : IsP q r m W c s) : m_Pool_len [.ref q] m = .ok (.int (s.2.length : Nat)) m := by
  refine runRet (gb_ok (acons (m1 := m) (d := .tup (s.2.map thD)) ?_ anil) |>.trans ?_)
  · show gBin oIx (gFld "Pool" "present" (gVar 0)) (gC (.int 1)) [some (.ref q)] m = _
    simp only [gBin, gFld, gVar_0, gC_eq, Out.bind_ok, hi, lkP, if_true, stP1]
  · rw [bLen_tup, List.length_map]
theorem lenI {i : Int} (h0 : 0 ≤ i) (h1 : i ≤ 100) : (if 0 ≤ i ∧ i < 2 ^ 63 then (Out.ok (D.int i) m : Out D) else .bad) = .ok (D.int i) m := if_pos ⟨h0, Int.lt_of_le_of_lt h1 (by decide)⟩
theorem lenG {i : Int} (h0 : 0 ≤ i) (h1 : i ≤ 100) (hi : IsP q r m W c s) (hF : m_Pool_len [.ref q] m = .ok (.int i) m) : bLenO "Pool" m_Pool_len [.ref q] m = .ok (.int i) m := by
  have e : bLenO "Pool" m_Pool_len [.ref q] m = (match insOf m (.ref q) with
    | some (c', _) => if c' = "Pool" then (m_Pool_len [.ref q] m).bind fun d m2 => (match d with
      | .int i => if 0 ≤ i ∧ i < 2 ^ 63 then .ok (.int i) m2 else .bad
      | _ => .bad)
      else .bad
    | none => .bad) := rfl
  rw [e, hi]
  refine (if_pos rfl).trans ?_
  rw [hF]
  exact lenI h0 h1
theorem lenN (h : go en m = .ok (.ref q) m) (hi : IsP q r m W c s) (hl : s.2.length ≤ 100) : gNoX (gB (bLenO "Pool" m_Pool_len) (aCons go aNil)) en m = .ok (.int (s.2.length : Nat)) m := by
  have e : gB (bLenO "Pool" m_Pool_len) (aCons go aNil) en m = .ok (.int (s.2.length : Nat)) m := by
    rw [gb_ok (acons h anil)]
    exact lenG (Int.natCast_nonneg _) (by omega) hi (ok_len hi)
  unfold gNoX
  rw [e]
theorem ok_steps {pa : List PSt} (hi : IsP q r m W c s) (h2 : m[r]? = some (.lst (pa.map stP))) : m_Pool_steps [.ref q] m = .ok (.int (pa.length : Nat)) m := by
  refine runRet (gb_ok (acons (m1 := m) (d := .ref r) ?_ anil) |>.trans ?_)
  · show gFld "Pool" "past" (gVar 0) [some (.ref q)] m = _
    simp only [gFld, gVar_0, Out.bind_ok, hi, lkA, if_true]
  · rw [bLenRef h2, List.length_map]
end
end Wk
namespace Wk
open PySem PySem.Spec L2 L3
open PyProof.Rows hiding St
abbrev CF : Int := 10 ^ 31
theorem reprF {n w : Nat} {d : D} {m : Sto} (h : Av n w CF d) (hn : n ≤ 62) (hw : w ≤ 10000000) : bReprX [d] m = .ok (.str (xtext d)) m := repr_av h (by decide +kernel) hn (by rw [sizeLine_eq]; omega)
structure AvL (n w : Nat) (ds : List D) : Prop where
  v : avs CF ds = true
  dp : dpxs ds ≤ n
  wt : wxs ds ≤ w
section
variable {n w w2 : Nat} {d : D} {ds : List D}
theorem AvL.nil : AvL n 0 [] := ⟨rfl, Nat.zero_le _, Nat.le_refl _⟩
theorem AvL.cons (h : Av n w CF d) (t : AvL n w2 ds) : AvL n (w + 2 + w2) (d :: ds) := ⟨by unfold avs; rw [h.v, t.v]; rfl, by unfold dpxs; exact Nat.max_le.mpr ⟨h.dp, t.dp⟩, by unfold wxs; have := h.wt; have := t.wt; omega⟩
theorem AvL.map {α : Type} {f : α → D} : ∀ {l : List α}, (∀ x ∈ l, Av n w CF (f x)) → AvL n ((w + 2) * l.length) (l.map f)
  | [], _ => .nil
  | x :: l, h => by
    have := AvL.cons (h x List.mem_cons_self) (AvL.map fun y hy => h y (List.mem_cons_of_mem x hy))
    refine ⟨this.v, this.dp, Nat.le_trans this.wt ?_⟩
    rw [List.length_cons, Nat.mul_succ]; omega
theorem AvL.T (h : AvL n w ds) : Av (n + 1) (4 + w) CF (.tup ds) := ⟨by unfold av; exact h.v, by unfold dpx; have := h.dp; omega, by unfold wx; have := h.wt; omega⟩
theorem AvL.L (h : AvL n w ds) : Av (n + 1) (4 + w) CF (.lst ds) := ⟨by unfold av; exact h.v, by unfold dpx; have := h.dp; omega, by unfold wx; have := h.wt; omega⟩
theorem avI {i : Int} (h0 : -CF ≤ i) (h1 : i ≤ CF) : Av n 2000 CF (.int i) := ⟨by unfold av; simp [h0, h1], by unfold dpx; exact Nat.zero_le _, by unfold wx; exact Nat.le_refl _⟩
end
structure POk (s : PSt) : Prop where
  ok : ∀ x ∈ s.2, ThOk x
  pw : (numT s.2).Pairwise (· < ·)
  lo : ∀ x ∈ s.2, 0 ≤ x.1 ∧ x.1 < s.1
  len : s.2.length ≤ 100
  a0 : 0 ≤ s.1
  a1 : s.1 ≤ 1000
theorem POk.nod {s : PSt} (h : POk s) : (numT s.2).Nodup := h.pw.imp fun q => Int.ne_of_lt q
theorem POk.l100 {s : PSt} (h : POk s) : s.2.length ≤ 100 := h.len
section
variable {m : Sto} {W : Int} {c : Bool} {s : PSt} {pa : List PSt}
theorem lstOk {g : GA} {en : Sl} {ds : List D} (h : g en m = .ok ds m) (hl : ds.length ≤ sizeLine) : L3.gLst g en m = .ok (.lst ds) m := by
  unfold L3.gLst
  rw [h, Out.bind_ok]
  first | exact if_pos hl | rfl
end
end Wk
namespace Wk
open PySem PySem.Spec L2 L3
open PyProof.Rows hiding St
structure AtQ (q r : Nat) (m : Sto) (W : Int) (c : Bool) (s : PSt) (pa : List PSt) : Prop where
  i : m[q]? = some (.ins "Pool" (flP r W c s))
  p : m[r]? = some (.lst (pa.map stP))
  ne : q ≠ r
def upQ (q r : Nat) (m : Sto) (W : Int) (c : Bool) (s : PSt) (pa : List PSt) : Sto := (m.set q (.ins "Pool" (flP r W c s))).set r (.lst (pa.map stP))
section
variable {q r k : Nat} {z : MO} {m : Sto} {W num : Int} {c : Bool} {s s' s'' : PSt} {pa pa' pa'' : List PSt} {l : List Th} {go : GE} {en : Sl}
theorem AtQ.isP (h : AtQ q r m W c s pa) : IsP q r m W c s := by
  unfold IsP insOf
  simp only [h.i]
theorem AtQ.lq (h : AtQ q r m W c s pa) : q < m.length := (List.getElem?_eq_some_iff.mp h.i).1
theorem AtQ.lr (h : AtQ q r m W c s pa) : r < m.length := (List.getElem?_eq_some_iff.mp h.p).1
theorem upQ_len : (upQ q r m W c s pa).length = m.length := by unfold upQ; rw [List.length_set, List.length_set]
theorem upQ_other (h1 : k ≠ q) (h2 : k ≠ r) : (upQ q r m W c s pa)[k]? = m[k]? := by
  unfold upQ
  rw [List.getElem?_set_ne (Ne.symm h2), List.getElem?_set_ne (Ne.symm h1)]
theorem AtQ.up (h : AtQ q r m W c s pa) : AtQ q r (upQ q r m W c s' pa') W c s' pa' where
  i := by
    unfold upQ
    rw [List.getElem?_set_ne (Ne.symm h.ne), List.getElem?_set_self h.lq]
  p := by
    unfold upQ
    rw [List.getElem?_set_self (by rw [List.length_set]; exact h.lr)]
  ne := h.ne
theorem IsP.app (h : IsP q r m W c s) : IsP q r (m ++ [z]) W c s := by
  unfold IsP at h ⊢
  unfold insOf at h ⊢
  cases e : m[q]? with
  | none => simp only [e] at h; cases h
  | some o =>
    simp only [e] at h
    have e2 : (m ++ [z])[q]? = some o := by rw [List.getElem?_append_left (List.getElem?_eq_some_iff.mp e).1]; exact e
    simp only [e2]
    exact h
theorem fldQ {f : Str} {d : D} (hg : go en m = .ok (.ref q) m) (hi : IsP q r m W c s) (hl : (flP r W c s).lookup f = some d) : gFld "Pool" f go en m = .ok d m := by
  simp only [gFld, hg, Out.bind_ok, hi, hl, if_true]
theorem methQ {F : FM} {x : Str} {n : Nat} {gs : GA} {ds : List D} {o : Out D} (hg : go en m = .ok (.ref q) m) (hi : IsP q r m W c s) (hx : (flP r W c s).lookup x = none) (ha : gs en m = .ok ds m) (hn : ds.length + 1 = n) (hF : F (.ref q :: ds) m = o) : gMeth "Pool" x n F go gs en m = o := by
  unfold gMeth
  rw [hg, Out.bind_ok, hi]
  dsimp only
  rw [if_pos ⟨rfl, hx⟩, ha, Out.bind_ok, if_pos hn]
  exact hF
theorem putP (h : m[q]? = some (.ins "Pool" (flP r W c s))) : oPutF "Pool" "present" (.ref q) (stP s') m = some (m.set q (.ins "Pool" (flP r W c s'))) := by
  unfold oPutF
  simp only [h]
  rw [if_pos ⟨trivial, (show (4 : Nat) < 1000 by decide)⟩]
  rfl
theorem setP {g : GE} {ge : GE} {m1 : Sto} (hg : ge en m = .ok (stP s') m1) (h0 : go en m1 = .ok (.ref q) m1) (h : m1[q]? = some (.ins "Pool" (flP r W c s))) : sAsg ge (nFld "Pool" "present" go) en m = .nx en (m1.set q (.ins "Pool" (flP r W c s'))) := by
  have e : nFld "Pool" "present" go (stP s') en m1 = .ok en (m1.set q (.ins "Pool" (flP r W c s'))) := by
    unfold nFld
    rw [h0]
    simp only [Out.bind_ok]
    rw [putP h]
  unfold sAsg
  rw [hg, SO.ofOut_ok, e]
  rfl
theorem ok_go_on {a : Int} (h : AtQ q r m W c s pa) (hpa : pa.length ≤ 100000) : m_Pool_go_on [.ref q, .int a, .lst (l.map thD)] m = .ok .non (upQ q r m W c (a, l) (pa ++ [s])) := by
  have hi := h.isP
  have v0 : ∀ mm : Sto, gVar 0 [some (D.ref q), some (.int a), some (.lst (l.map thD))] mm = .ok (.ref q) mm := fun _ => rfl
  have h1 : gBM "list" mAppend (gFld "Pool" "past" (gVar 0)) (aCons (gFld "Pool" "present" (gVar 0)) aNil) [some (.ref q), some (.int a), some (.lst (l.map thD))] m = .ok .non (m.set r (.lst ((pa ++ [s]).map stP))) := by
    unfold gBM
    rw [fldQ (v0 m) hi lkA, Out.bind_ok, if_pos (tyM_lst h.p), acons (fldQ (v0 m) hi lkP) anil, Out.bind_ok, mAppend_lst h.p (by rw [List.length_map, sizeLine_eq]; omega), List.map_append]
    rfl
  have hq : (m.set r (.lst ((pa ++ [s]).map stP)))[q]? = some (.ins "Pool" (flP r W c s)) := by rw [List.getElem?_set_ne (Ne.symm h.ne)]; exact h.i
  have h2 : sAsg (gTup (aCons (gVar 1) (aCons (gB bTuple (aCons (gVar 2) aNil)) aNil))) (nFld "Pool" "present" (gVar 0)) [some (.ref q), some (.int a), some (.lst (l.map thD))] (m.set r (.lst ((pa ++ [s]).map stP))) = .nx [some (.ref q), some (.int a), some (.lst (l.map thD))] ((m.set r (.lst ((pa ++ [s]).map stP))).set q (.ins "Pool" (flP r W c (a, l)))) :=
    setP (g := gVar 0) (s' := (a, l)) rfl (v0 _) hq
  unfold m_Pool_go_on runF g_Pool_go_on
  have e0 : startE 3 [D.ref q, .int a, .lst (l.map thD)] = [some (.ref q), some (.int a), some (.lst (l.map thD))] := rfl
  rw [e0, seq_nx (expr_nx h1), h2]
  show exitF m.length .non _ = _
  rw [exitF_len (by rw [List.length_set, List.length_set])]
  unfold upQ
  rw [List.set_comm _ _ h.ne.symm]
theorem check_planOk' {ns : List Int} (h : IsPlan ns) : m_check_plan [tupD ns] m = .ok .non m := by
  have hv := (h.av (C := CF) (by decide)).v
  unfold m_check_plan runF g_check_plan
  simp -implicitDefEqProofs only [planX hv, planB_of h, Bool.not_true, exitF_len, sSeq, sAsg, sRet, sRetN, sIf, sExpr, sPar, sPar3, sNext, gBin, gUn, gAs, gChain, gIf, gB, gBM, gCall, aCons, aNil, gTru, bNot, bAnd, bOr, gAnd, gOr, gNot, L3.gTup, L3.gLst, gLstM, gCut, gPart, gFld, gDget1, gDisp, gPairs, gDnewK, nTup, nCons, nNil, nSub, nFld, nName_eq, gVar_0, gVar_s, gC_eq, cYes, Out.bind_ok, startE, List.map_cons, List.map_nil, List.length_cons, List.length_nil, List.replicate_succ, List.replicate_zero, List.cons_append, List.nil_append, List.append_nil, List.set_cons_zero, List.set_cons_succ, Nat.reduceSub, Nat.reduceAdd, if_true, if_false, Bool.false_eq_true, oAdd_i, oSub_i, oMul_i, oDiv_i, oMod_i, oPow3_i, oNeg_i, oI_i, oLt_i, oEqS_s, oIsN_eq, oNotN_eq, truD_b, truD_i, bAbs_i, bInt_b, bInt_i, bMax2_i, bMin2_i, srcT_0, srcT_1, srcT_2, srcT_p0, srcT_p2, exitF_1, exitF_0, exitK_eq, decide_eq_true_eq, Nat.zero_add, if_f, eq_self, true_and, and_true, bLen_scr, bLen_lst, bLen_tup, bTuple_lst, bTuple_tup, bAny_b, bAll_b, bSortedSet_i, bSortedSetX_i, oEq_ii, sRaise, SO.ofOut_ok, SO.ofOut_ex, SO.then_nx, SO.then_rt, SO.then_ex, Out.bind_ex]
theorem ok_begin {ns : List Int} (h : AtQ q r m W c s pa) (hp : IsPlan ns) (hl : s.2.length ≤ 100) (hpa : pa.length ≤ 100000) : m_Pool_begin [.ref q, tupD ns] m = .ok (.int s.1) (upQ q r m W c (s.1 + 1, s.2 ++ [(s.1, ns, 0)]) (pa ++ [s])) := by
  have hi := h.isP
  have ecp := @check_planOk' m ns hp
  have h1 : gCall 1 m_check_plan (aCons (gVar 1) aNil) [some (.ref q), some (tupD ns), none, none] m = .ok .non m := ecp
  have h2 : sAsg (gFld "Pool" "present" (gVar 0)) (nTup 2 (nCons (nName 2) (nCons (nName 3) nNil))) [some (.ref q), some (tupD ns), none, none] m = .nx [some (.ref q), some (tupD ns), some (.int s.1), some (.tup (s.2.map thD))] m := by
    unfold sAsg
    rw [fldQ (q := q) (d := stP s) rfl hi lkP, SO.ofOut_ok]
    rfl
  have h3 : gAs (gBin oGe (gB bLen (aCons (gVar 3) aNil)) (gC (.int 200))) [some (.ref q), some (tupD ns), some (.int s.1), some (.tup (s.2.map thD))] m = .ok false m := by
    have : decide ((200 : Int) ≤ ((s.2.map thD).length : Nat)) = false := by
      rw [List.length_map, decide_eq_false_iff_not]; omega
    unfold gAs gBin
    rw [gb_ok (acons rfl anil), bLen_tup, Out.bind_ok]
    show (Out.ok (D.bl (decide ((200 : Int) ≤ ((s.2.map thD).length : Nat)))) m).bind _ = _
    rw [this]
    rfl
  have h4 : gMeth "Pool" "go_on" 3 m_Pool_go_on (gVar 0) (aCons (gBin oAdd (gVar 2) (gC (.int 1))) (aCons (L3.gLst (aStar (gVar 3) (aCons (gTup (aCons (gVar 2) (aCons (gVar 1) (aCons (gC (.int 0)) aNil)))) aNil))) aNil)) [some (.ref q), some (tupD ns), some (.int s.1), some (.tup (s.2.map thD))] m = .ok .non (upQ q r m W c (s.1 + 1, s.2 ++ [(s.1, ns, 0)]) (pa ++ [s])) := by
    have ea : (aCons (gBin oAdd (gVar 2) (gC (.int 1))) (aCons (L3.gLst (aStar (gVar 3) (aCons (gTup (aCons (gVar 2) (aCons (gVar 1) (aCons (gC (.int 0)) aNil)))) aNil))) aNil)) [some (.ref q), some (tupD ns), some (.int s.1), some (.tup (s.2.map thD))] m = .ok [.int (s.1 + 1), .lst ((s.2 ++ [(s.1, ns, 0)]).map thD)] m := by
      refine acons rfl (acons ?_ anil)
      refine (lstOk (ds := s.2.map thD ++ [thD (s.1, ns, 0)]) rfl ?_).trans ?_
      · rw [sizeLine_eq, List.length_append, List.length_map]; simp only [List.length_cons, List.length_nil]; omega
      · rw [List.map_append]; rfl
    exact methQ rfl hi rfl ea rfl (ok_go_on h hpa)
  unfold m_Pool_begin runF g_Pool_begin
  have e0 : startE 4 [D.ref q, tupD ns] = [some (.ref q), some (tupD ns), none, none] := rfl
  rw [e0, seq_nx (expr_nx h1), seq_nx h2]
  have h5 : ∀ a b : GS, sSeq (sIf (gAs (gBin oGe (gB bLen (aCons (gVar 3) aNil)) (gC (.int 200)))) a sNext) b [some (.ref q), some (tupD ns), some (.int s.1), some (.tup (s.2.map thD))] m = b [some (.ref q), some (tupD ns), some (.int s.1), some (.tup (s.2.map thD))] m := fun a b => seq_nx ((if_no h3).trans rfl)
  rw [h5, seq_nx (expr_nx h4)]
  exact exitF_len upQ_len
theorem dpSt (n : Nat) (s : PSt) : D.dp (n + 4) (stP s) = true := by
  have h1 : D.dp (n + 3) (.tup (s.2.map thD)) = true := by
    unfold D.dp
    rw [dps_all, List.all_eq_true]
    intro d hd
    obtain ⟨x, _, rfl⟩ := List.mem_map.mp hd
    exact dpTh n x
  have h2 : D.dp (n + 3) (.int s.1) = true := by unfold D.dp; rfl
  unfold stP D.dp D.dps D.dps D.dps
  rw [h1, h2]; rfl
end
end Wk
namespace Wk
open PySem PySem.Spec L2 L3
open PyProof.Rows hiding St
def nextTh (y : Th) : List Th := if y.2.2 + 1 < (y.2.1.length : Int) then [(y.1, y.2.1, y.2.2 + 1)] else []
def stepTh (num : Int) (y : Th) : List Th := if num = y.1 then nextTh y else [y]
def behT (num : Int) (l : List Th) : List Th := l.flatMap (stepTh num)
theorem behT_cons {num : Int} {y : Th} {l : List Th} : behT num (y :: l) = stepTh num y ++ behT num l := List.flatMap_cons
noncomputable def tTk : GT := nTup 3 (nCons (nName 4) (nCons (nName 5) (nCons (nName 6) nNil)))
noncomputable def bTk : GS := (sIf (gTru (gCall 3 m_is_between (aCons (gVar 1) (aCons (gVar 4) (aCons (gVar 4) aNil)))))
  (sSeq (sAsg (gC (.bl true)) (nName 3))
  (sSeq (sIf (gAs (gBin oGt (gBin oIx (gVar 5) (gVar 6)) (gNoX (gProp "Pool" m_Pool_free (gVar 0)))))
  (sRaise "Waiting" "left" (gNoX (gProp "Pool" m_Pool_free (gVar 0))))
  sNext)
  (sIf (gAs (gBin oLt (gBin oAdd (gVar 6) (gC (.int 1))) (gB bLen (aCons (gVar 5) aNil))))
  (sExpr (gBM "list" mAppend (gVar 2) (aCons (gTup (aCons (gVar 4) (aCons (gVar 5) (aCons (gBin oAdd (gVar 6) (gC (.int 1))) aNil)))) aNil)))
  sNext)))
  (sExpr (gBM "list" mAppend (gVar 2) (aCons (gTup (aCons (gVar 4) (aCons (gVar 5) (aCons (gVar 6) aNil)))) aNil))))
section
variable {q r : Nat} {m : Sto} {W num : Int} {c : Bool} {s : PSt} {b : Bool} {y : Th} {ds : List D} {l : List Th}
theorem binOk {o : D → D → Sto → Out D} {g h : GE} {en : Sl} {m m1 m2 : Sto} {a b : D} (h1 : g en m = .ok a m1) (h2 : h en m1 = .ok b m2) : gBin o g h en m = o a b m2 := by
  unfold gBin
  rw [h1, Out.bind_ok, h2, Out.bind_ok]
theorem btwI {n : Int} {m : Sto} : m_is_between [.int num, .int n, .int n] m = .ok (.bl (decide (num = n))) m := by
  have hv : av (num.natAbs : Nat) (.int num) = true := by unfold av; simp; omega
  rw [betweenX hv]
  have : btw n n (.int num) = decide (num = n) := by
    show (decide (n ≤ num) && decide (num ≤ n)) = _
    rw [Bool.eq_iff_iff, Bool.and_eq_true, decide_eq_true_eq, decide_eq_true_eq, decide_eq_true_eq]
    omega
  rw [this]
theorem at_m1 {z : MO} : (m ++ [z])[m.length]? = some z := by simp
theorem set_m1 {z z' : MO} : (m ++ [z]).set m.length z' = m ++ [z'] := by
  rw [List.set_append_right _ _ (Nat.le_refl _)]; simp
abbrev enT (q : Nat) (num : Int) (m : Sto) (b : Bool) (y : Th) : Sl := [some (.ref q), some (.int num), some (.ref m.length), some (.bl b), some (.int y.1), some (.tup (y.2.1.map .int)), some (.int y.2.2)]
theorem app_th {d : D} (hl : ds.length < sizeLine) {en : Sl} {go : GE} {ga : GE} (h1 : go en (m ++ [.lst ds]) = .ok (.ref m.length) (m ++ [.lst ds])) (h2 : ga en (m ++ [.lst ds]) = .ok d (m ++ [.lst ds])) : sExpr (gBM "list" mAppend go (aCons ga aNil)) en (m ++ [.lst ds]) = .nx en (m ++ [.lst (ds ++ [d])]) := by
  refine expr_nx (d := .non) ?_
  unfold gBM
  rw [h1, Out.bind_ok, if_pos (tyM_lst at_m1), acons h2 anil, Out.bind_ok, mAppend_lst at_m1 hl, set_m1]
theorem tk_no (hne : ¬ num = y.1) (hl : ds.length < sizeLine) : bTk (enT q num m b y) (m ++ [.lst ds]) = .nx (enT q num m b y) (m ++ [.lst (ds ++ [thD y])]) := by
  have h1 : gTru (gCall 3 m_is_between (aCons (gVar 1) (aCons (gVar 4) (aCons (gVar 4) aNil)))) (enT q num m b y) (m ++ [.lst ds]) = .ok false (m ++ [.lst ds]) := by
    unfold gTru gCall
    rw [acons rfl (acons rfl (acons rfl anil)), Out.bind_ok]
    show (Out.bind (m_is_between [.int num, .int y.1, .int y.1] (m ++ [.lst ds])) _) = _
    rw [btwI, decide_eq_false hne]
    rfl
  unfold bTk
  rw [if_no h1]
  exact app_th hl rfl rfl
theorem tk_yes0 (he : num = y.1) : gTru (gCall 3 m_is_between (aCons (gVar 1) (aCons (gVar 4) (aCons (gVar 4) aNil)))) (enT q num m b y) (m ++ [.lst ds]) = .ok true (m ++ [.lst ds]) := by
  unfold gTru gCall
  rw [acons rfl (acons rfl (acons rfl anil)), Out.bind_ok]
  show (Out.bind (m_is_between [.int num, .int y.1, .int y.1] (m ++ [.lst ds])) _) = _
  rw [btwI, decide_eq_true he]
  rfl
theorem tk_free (hi : IsP q r m W c s) (P : POk s) {en : Sl} : gNoX (gProp "Pool" m_Pool_free (gVar 0)) (some (.ref q) :: en) (m ++ [.lst ds]) = .ok (.int (W - heldT s.2)) (m ++ [.lst ds]) := propN rfl (hi.app) (ok_free hi.app P.ok P.l100)
theorem tk_gt (hi : IsP q r m W c s) (P : POk s) (hy : ThOk y) : gAs (gBin oGt (gBin oIx (gVar 5) (gVar 6)) (gNoX (gProp "Pool" m_Pool_free (gVar 0)))) (enT q num m b y) (m ++ [.lst ds]) = .ok (decide (W - heldT s.2 < nxT y)) (m ++ [.lst ds]) := by
  have h1 : gBin oIx (gVar 5) (gVar 6) (enT q num m b y) (m ++ [.lst ds]) = .ok (.int (nxT y)) (m ++ [.lst ds]) := nx_ok hy
  have h2 := tk_free (ds := ds) hi P (en := (enT q num m b y).tail)
  unfold gAs gBin
  unfold gBin at h1
  rw [h1, Out.bind_ok]
  show (Out.bind (Out.bind (gNoX (gProp "Pool" m_Pool_free (gVar 0)) (some (.ref q) :: (enT q num m b y).tail) (m ++ [.lst ds])) _) _) = _
  rw [h2, Out.bind_ok]
  rfl
theorem tk_wait (hi : IsP q r m W c s) (P : POk s) (hy : ThOk y) (he : num = y.1) (hw : W - heldT s.2 < nxT y) : bTk (enT q num m b y) (m ++ [.lst ds]) = .ex ⟨"Waiting", ["left"], [.int (W - heldT s.2)]⟩ (m ++ [.lst ds]) := by
  unfold bTk
  rw [if_yes (tk_yes0 he), seq_nx (asg_nx rfl)]
  have h1 := tk_gt (num := num) (b := true) (ds := ds) hi P hy
  rw [decide_eq_true hw] at h1
  have h2 := tk_free (ds := ds) hi P (en := (enT q num m true y).tail)
  have h3 : sRaise "Waiting" "left" (gNoX (gProp "Pool" m_Pool_free (gVar 0))) (enT q num m true y) (m ++ [.lst ds]) = .ex ⟨"Waiting", ["left"], [.int (W - heldT s.2)]⟩ (m ++ [.lst ds]) := by
    unfold sRaise
    rw [show enT q num m true y = some (.ref q) :: (enT q num m true y).tail from rfl, h2]
    rfl
  have h4 : ∀ f : GS, sSeq (sIf (gAs (gBin oGt (gBin oIx (gVar 5) (gVar 6)) (gNoX (gProp "Pool" m_Pool_free (gVar 0))))) (sRaise "Waiting" "left" (gNoX (gProp "Pool" m_Pool_free (gVar 0)))) sNext) f (enT q num m true y) (m ++ [.lst ds]) = .ex ⟨"Waiting", ["left"], [.int (W - heldT s.2)]⟩ (m ++ [.lst ds]) := fun f => by
    unfold sSeq
    rw [if_yes h1, h3]
    rfl
  exact h4 _
theorem tk_go (hi : IsP q r m W c s) (P : POk s) (hy : ThOk y) (he : num = y.1) (hw : ¬ W - heldT s.2 < nxT y) (hl : ds.length < sizeLine) : bTk (enT q num m b y) (m ++ [.lst ds]) = .nx (enT q num m true y) (m ++ [.lst (ds ++ (nextTh y).map thD)]) := by
  unfold bTk
  rw [if_yes (tk_yes0 he), seq_nx (asg_nx rfl)]
  have h1 := tk_gt (num := num) (b := true) (ds := ds) hi P hy
  rw [decide_eq_false hw] at h1
  have h4 : ∀ f g : GS, sSeq (sIf (gAs (gBin oGt (gBin oIx (gVar 5) (gVar 6)) (gNoX (gProp "Pool" m_Pool_free (gVar 0))))) g sNext) f (enT q num m true y) (m ++ [.lst ds]) = f (enT q num m true y) (m ++ [.lst ds]) := fun f g => seq_nx ((if_no h1).trans rfl)
  refine (h4 _ _).trans ?_
  have h5 : gAs (gBin oLt (gBin oAdd (gVar 6) (gC (.int 1))) (gB bLen (aCons (gVar 5) aNil))) (enT q num m true y) (m ++ [.lst ds]) = .ok (decide (y.2.2 + 1 < (y.2.1.length : Int))) (m ++ [.lst ds]) := by
    have eb : gB bLen (aCons (gVar 5) aNil) (enT q num m true y) (m ++ [.lst ds]) = .ok (.int (y.2.1.length : Nat)) (m ++ [.lst ds]) := by
      rw [gb_ok (acons rfl anil), bLen_tup, List.length_map]
    unfold gAs
    rw [binOk (a := .int (y.2.2 + 1)) rfl eb]
    rfl
  unfold nextTh
  by_cases q : y.2.2 + 1 < (y.2.1.length : Int)
  · rw [decide_eq_true q] at h5
    rw [if_yes h5, if_pos q]
    exact app_th hl rfl rfl
  · rw [decide_eq_false q] at h5
    rw [if_no h5, if_neg q, List.map_nil, List.append_nil]
    rfl
theorem tTk_ok {en : Sl} {m' : Sto} {x4 x5 x6 : Option D} : tTk (thD y) [some (.ref q), some (.int num), some (.ref m.length), some (.bl b), x4, x5, x6] m' = .ok (enT q num m b y) m' := rfl
theorem tk_run (hi : IsP q r m W c s) (P : POk s) : ∀ {l : List Th} {b : Bool} {acc : List Th} {x4 x5 x6 : Option D}, (∀ y ∈ l, ThOk y) → acc.length + l.length ≤ 1000 → (∀ y ∈ l, num = y.1 → ¬ W - heldT s.2 < nxT y) →
    ∃ y4 y5 y6, forGo ⟨l.map thD, []⟩ tTk bTk (l.map thD) [some (.ref q), some (.int num), some (.ref m.length), some (.bl b), x4, x5, x6] (m ++ [.lst (acc.map thD)]) = .nx [some (.ref q), some (.int num), some (.ref m.length), some (.bl (b || l.any fun y => decide (num = y.1))), y4, y5, y6] (m ++ [.lst ((acc ++ behT num l).map thD)]) := by
  suffices H : ∀ (src : L3.Src), src.lives = [] → ∀ {l : List Th} {b : Bool} {acc : List Th} {x4 x5 x6 : Option D}, (∀ y ∈ l, ThOk y) → acc.length + l.length ≤ 1000 → (∀ y ∈ l, num = y.1 → ¬ W - heldT s.2 < nxT y) →
    ∃ y4 y5 y6, forGo src tTk bTk (l.map thD) [some (.ref q), some (.int num), some (.ref m.length), some (.bl b), x4, x5, x6] (m ++ [.lst (acc.map thD)]) = .nx [some (.ref q), some (.int num), some (.ref m.length), some (.bl (b || l.any fun y => decide (num = y.1))), y4, y5, y6] (m ++ [.lst ((acc ++ behT num l).map thD)]) from
    fun {l b acc x4 x5 x6} h1 h2 h3 => H _ rfl h1 h2 h3
  intro src hs l
  induction l with
  | nil =>
    intro b acc x4 x5 x6 _ _ _
    exact ⟨x4, x5, x6, by unfold forGo behT; simp⟩
  | cons y l ih =>
    intro b acc x4 x5 x6 h1 h2 h3
    have hok : ∀ m', src.ok m' = true := fun m' => Src.ok_of fun p hp => by rw [hs] at hp; cases hp
    have hy := h1 y List.mem_cons_self
    have hl : (acc.map thD).length < sizeLine := by rw [List.length_map, sizeLine_eq]; rw [List.length_cons] at h2; omega
    have hst : bTk (enT q num m b y) (m ++ [.lst (acc.map thD)]) = .nx (enT q num m (b || decide (num = y.1)) y) (m ++ [.lst ((acc ++ stepTh num y).map thD)]) := by
      unfold stepTh
      by_cases e : num = y.1
      · rw [if_pos e, decide_eq_true e, Bool.or_true, List.map_append]
        exact tk_go hi P hy e (h3 y List.mem_cons_self e) hl
      · rw [if_neg e, decide_eq_false e, Bool.or_false, List.map_append]
        exact tk_no e hl
    have hsl : (stepTh num y).length ≤ 1 := by
      unfold stepTh nextTh
      split
      · split <;> simp
      · simp
    obtain ⟨y4, y5, y6, e⟩ := ih (b := b || decide (num = y.1)) (acc := acc ++ stepTh num y) (x4 := some (.int y.1)) (x5 := some (.tup (y.2.1.map .int))) (x6 := some (.int y.2.2)) (fun z hz => h1 z (List.mem_cons_of_mem y hz)) (by rw [List.length_append]; rw [List.length_cons] at h2; omega) (fun z hz => h3 z (List.mem_cons_of_mem y hz))
    refine ⟨y4, y5, y6, ?_⟩
    rw [List.map_cons]
    unfold forGo
    rw [tTk_ok (en := []), SO.ofOut_ok, hst]
    dsimp only
    rw [if_pos (hok _), List.any_cons, behT_cons, ← Bool.or_assoc, ← List.append_assoc]
    exact e
theorem tk_ex (hi : IsP q r m W c s) (P : POk s) : ∀ {l : List Th} {b : Bool} {acc : List Th} {x4 x5 x6 : Option D} (src : L3.Src), src.lives = [] → (∀ y ∈ l, ThOk y) → acc.length + l.length ≤ 1000 → (∃ y ∈ l, num = y.1 ∧ W - heldT s.2 < nxT y) →
    ∃ ds, forGo src tTk bTk (l.map thD) [some (.ref q), some (.int num), some (.ref m.length), some (.bl b), x4, x5, x6] (m ++ [.lst (acc.map thD)]) = .ex ⟨"Waiting", ["left"], [.int (W - heldT s.2)]⟩ (m ++ [.lst ds]) := by
  intro l
  induction l with
  | nil => rintro b acc x4 x5 x6 src _ _ _ ⟨y, hy, _⟩; cases hy
  | cons y l ih =>
    intro b acc x4 x5 x6 src hs h1 h2 h3
    have hok : ∀ m', src.ok m' = true := fun m' => Src.ok_of fun p hp => by rw [hs] at hp; cases hp
    have hy := h1 y List.mem_cons_self
    have hl : (acc.map thD).length < sizeLine := by rw [List.length_map, sizeLine_eq]; rw [List.length_cons] at h2; omega
    have hsl : (stepTh num y).length ≤ 1 := by
      unfold stepTh nextTh
      split
      · split <;> simp
      · simp
    rw [List.map_cons]
    by_cases hw : num = y.1 ∧ W - heldT s.2 < nxT y
    · refine ⟨acc.map thD, ?_⟩
      unfold forGo
      rw [tTk_ok (en := []), SO.ofOut_ok, tk_wait hi P hy hw.1 hw.2]
    · have hst : bTk (enT q num m b y) (m ++ [.lst (acc.map thD)]) = .nx (enT q num m (b || decide (num = y.1)) y) (m ++ [.lst ((acc ++ stepTh num y).map thD)]) := by
        unfold stepTh
        by_cases e : num = y.1
        · rw [if_pos e, decide_eq_true e, Bool.or_true, List.map_append]
          exact tk_go hi P hy e (fun q => hw ⟨e, q⟩) hl
        · rw [if_neg e, decide_eq_false e, Bool.or_false, List.map_append]
          exact tk_no e hl
      have h3' : ∃ y ∈ l, num = y.1 ∧ W - heldT s.2 < nxT y := by
        obtain ⟨z, hz, q⟩ := h3
        rcases List.mem_cons.mp hz with e | e
        · rw [e] at q; exact absurd q hw
        · exact ⟨z, e, q⟩
      obtain ⟨ds, e⟩ := ih (b := b || decide (num = y.1)) (acc := acc ++ stepTh num y) (x4 := some (.int y.1)) (x5 := some (.tup (y.2.1.map .int))) (x6 := some (.int y.2.2)) src hs (fun z hz => h1 z (List.mem_cons_of_mem y hz)) (by rw [List.length_append]; rw [List.length_cons] at h2; omega) h3'
      refine ⟨ds, ?_⟩
      unfold forGo
      rw [tTk_ok (en := []), SO.ofOut_ok, hst]
      dsimp only
      rw [if_pos (hok _)]
      exact e
end
end Wk
namespace Wk
open PySem PySem.Spec L2 L3
open PyProof.Rows hiding St
section
variable {qq r : Nat} {m : Sto} {W num : Int} {c : Bool} {s : PSt} {l : List Th}
theorem next_ok {y z : Th} (h : ThOk y) (hz : z ∈ nextTh y) : ThOk z ∧ z.1 = y.1 := by
  unfold nextTh at hz
  split at hz
  · rename_i q
    rw [List.mem_singleton.mp hz]
    exact ⟨⟨h.plan, by have := h.p0; show 0 ≤ y.2.2 + 1; omega, q⟩, rfl⟩
  · cases hz
theorem beh_mem {z : Th} (h : ∀ y ∈ l, ThOk y) (hz : z ∈ behT num l) : ThOk z ∧ z.1 ∈ numT l := by
  obtain ⟨y, hy, q⟩ := List.mem_flatMap.mp hz
  unfold stepTh at q
  split at q
  · obtain ⟨h1, h2⟩ := next_ok (h y hy) q
    exact ⟨h1, by rw [h2]; exact List.mem_map.mpr ⟨y, hy, rfl⟩⟩
  · rw [List.mem_singleton.mp q]
    exact ⟨h y hy, List.mem_map.mpr ⟨y, hy, rfl⟩⟩
theorem beh_sub : ∀ l : List Th, (numT (behT num l)).Sublist (numT l)
  | [] => .slnil
  | y :: l => by
    rw [behT_cons]
    show (List.map _ (stepTh num y ++ behT num l)).Sublist (y.1 :: numT l)
    rw [List.map_append]
    have ih := beh_sub l
    unfold stepTh nextTh
    split
    · split
      · exact ih.cons₂ _
      · exact ih.cons _
    · exact ih.cons₂ _
theorem beh_len (l : List Th) : (behT num l).length ≤ l.length := by
  have := (beh_sub (num := num) l).length_le
  unfold numT at this
  rw [List.length_map, List.length_map] at this
  exact this
theorem POk.beh (P : POk s) : POk (s.1, behT num s.2) where
  ok := fun z hz => (beh_mem P.ok hz).1
  pw := P.pw.sublist (beh_sub s.2)
  lo := fun z hz => by
    obtain ⟨y, hy, e⟩ := List.mem_map.mp (beh_mem P.ok hz).2
    rw [← e]
    exact P.lo y hy
  len := Nat.le_trans (beh_len s.2) P.len
  a0 := P.a0
  a1 := P.a1
def waitsT (f num : Int) (l : List Th) : Bool := l.any fun y => decide (num = y.1) && decide (f < nxT y)
def thereT (num : Int) (l : List Th) : Bool := l.any fun y => decide (num = y.1)
theorem bel_th (n : Nat) (x : Th) : D.bel n (thD x) = true := by
  have h1 : D.bel n (tupD x.2.1) = true := by unfold tupD D.bel; exact bels_map fun _ _ => by unfold D.bel; rfl
  have h2 : ∀ i : Int, D.bel n (.int i) = true := fun i => by unfold D.bel; rfl
  unfold thD D.bel D.bels D.bels D.bels D.bels
  rw [h2, h2, h1]; rfl
theorem takenW (hi : IsP qq r m W c s) (P : POk s) (h : waitsT (W - heldT s.2) num s.2 = true) : ∃ ds, m_Pool_taken [.ref qq, .int num] m = .ex ⟨"Waiting", ["left"], [.int (W - heldT s.2)]⟩ (m ++ [.lst ds]) := by
  obtain ⟨y, hy, q⟩ := List.any_eq_true.mp h
  rw [Bool.and_eq_true, decide_eq_true_eq, decide_eq_true_eq] at q
  have hl := P.len
  obtain ⟨ds, e⟩ := tk_ex (num := num) hi P (b := false) (acc := []) (x4 := none) (x5 := none) (x6 := none) ⟨s.2.map thD, []⟩ rfl P.ok (by simp; omega) ⟨y, hy, q⟩
  refine ⟨ds, ?_⟩
  have e1 : sPar 2 3 (aCons (gLstM aNil) (aCons (gC (.bl false)) aNil)) [some (.ref qq), some (.int num), none, none, none, none, none] m = .nx [some (.ref qq), some (.int num), some (.ref m.length), some (.bl false), none, none, none] (m ++ [.lst []]) := rfl
  have e2 : sFor (iSeq (gBin oIx (gFld "Pool" "present" (gVar 0)) (gC (.int 1)))) tTk bTk [some (.ref qq), some (.int num), some (.ref m.length), some (.bl false), none, none, none] (m ++ [.lst []]) = .ex ⟨"Waiting", ["left"], [.int (W - heldT s.2)]⟩ (m ++ [.lst ds]) := by
    have ei : iSeq (gBin oIx (gFld "Pool" "present" (gVar 0)) (gC (.int 1))) [some (.ref qq), some (.int num), some (.ref m.length), some (.bl false), none, none, none] (m ++ [.lst []]) = .ok ⟨s.2.map thD, []⟩ (m ++ [.lst []]) := by
      have := IsP.app (z := .lst []) hi
      simp only [iSeq, gBin, gFld, gVar_0, gC_eq, Out.bind_ok, this, lkP, if_true, stP1, srcOf]
    unfold sFor
    rw [ei, SO.ofOut_ok, if_pos (Src.ok_fixed _ _)]
    exact e
  unfold m_Pool_taken runF
  have e0 : startE 7 [D.ref qq, .int num] = [some (.ref qq), some (.int num), none, none, none, none, none] := rfl
  have e3 : ∀ f : GS, sSeq (sPar 2 3 (aCons (gLstM aNil) (aCons (gC (.bl false)) aNil))) (sSeq (sFor (iSeq (gBin oIx (gFld "Pool" "present" (gVar 0)) (gC (.int 1)))) tTk bTk) f) [some (.ref qq), some (.int num), none, none, none, none, none] m = .ex ⟨"Waiting", ["left"], [.int (W - heldT s.2)]⟩ (m ++ [.lst ds]) := fun f => by
    rw [seq_nx e1]
    unfold sSeq
    rw [e2]
    rfl
  rw [e0, show g_Pool_taken [some (.ref qq), some (.int num), none, none, none, none, none] m = .ex ⟨"Waiting", ["left"], [.int (W - heldT s.2)]⟩ (m ++ [.lst ds]) from e3 _]
theorem taken_run (hi : IsP qq r m W c s) (P : POk s) (h : waitsT (W - heldT s.2) num s.2 = false) : ∃ y4 y5 y6, ∀ f : GS, sSeq (sPar 2 3 (aCons (gLstM aNil) (aCons (gC (.bl false)) aNil))) (sSeq (sFor (iSeq (gBin oIx (gFld "Pool" "present" (gVar 0)) (gC (.int 1)))) tTk bTk) f) [some (.ref qq), some (.int num), none, none, none, none, none] m =
    f [some (.ref qq), some (.int num), some (.ref m.length), some (.bl (thereT num s.2)), y4, y5, y6] (m ++ [.lst ((behT num s.2).map thD)]) := by
  have hl := P.len
  have hno : ∀ y ∈ s.2, num = y.1 → ¬ W - heldT s.2 < nxT y := fun y hy e q => by
    have : waitsT (W - heldT s.2) num s.2 = true := List.any_eq_true.mpr ⟨y, hy, by rw [decide_eq_true e, decide_eq_true q]; rfl⟩
    rw [this] at h; cases h
  obtain ⟨y4, y5, y6, e⟩ := tk_run (num := num) hi P (l := s.2) (b := false) (acc := []) (x4 := none) (x5 := none) (x6 := none) P.ok (by simp; omega) hno
  refine ⟨y4, y5, y6, fun f => ?_⟩
  have e1 : sPar 2 3 (aCons (gLstM aNil) (aCons (gC (.bl false)) aNil)) [some (.ref qq), some (.int num), none, none, none, none, none] m = .nx [some (.ref qq), some (.int num), some (.ref m.length), some (.bl false), none, none, none] (m ++ [.lst []]) := rfl
  have e2 : sFor (iSeq (gBin oIx (gFld "Pool" "present" (gVar 0)) (gC (.int 1)))) tTk bTk [some (.ref qq), some (.int num), some (.ref m.length), some (.bl false), none, none, none] (m ++ [.lst []]) = .nx [some (.ref qq), some (.int num), some (.ref m.length), some (.bl (thereT num s.2)), y4, y5, y6] (m ++ [.lst ((behT num s.2).map thD)]) := by
    have ei : iSeq (gBin oIx (gFld "Pool" "present" (gVar 0)) (gC (.int 1))) [some (.ref qq), some (.int num), some (.ref m.length), some (.bl false), none, none, none] (m ++ [.lst []]) = .ok ⟨s.2.map thD, []⟩ (m ++ [.lst []]) := by
      have := IsP.app (z := .lst []) hi
      simp only [iSeq, gBin, gFld, gVar_0, gC_eq, Out.bind_ok, this, lkP, if_true, stP1, srcOf]
    unfold sFor
    rw [ei, SO.ofOut_ok, if_pos (Src.ok_fixed _ _)]
    exact e
  rw [seq_nx e1, seq_nx e2]
theorem takenN (hi : IsP qq r m W c s) (P : POk s) (h : waitsT (W - heldT s.2) num s.2 = false) (h2 : thereT num s.2 = false) : ∃ ds, m_Pool_taken [.ref qq, .int num] m = .ex ⟨"NoThread", ["value"], [.int num]⟩ (m ++ [.lst ds]) := by
  obtain ⟨y4, y5, y6, e⟩ := taken_run (num := num) hi P h
  rw [h2] at e
  refine ⟨(behT num s.2).map thD, ?_⟩
  unfold m_Pool_taken runF
  have e0 : startE 7 [D.ref qq, .int num] = [some (.ref qq), some (.int num), none, none, none, none, none] := rfl
  have e3 : ∀ f : GS, sSeq (sIf (bNot (gTru (gVar 3))) (sRaise "NoThread" "value" (gVar 1)) sNext) f [some (.ref qq), some (.int num), some (.ref m.length), some (.bl false), y4, y5, y6] (m ++ [.lst ((behT num s.2).map thD)]) = .ex ⟨"NoThread", ["value"], [.int num]⟩ (m ++ [.lst ((behT num s.2).map thD)]) := fun f => rfl
  rw [e0, show g_Pool_taken [some (.ref qq), some (.int num), none, none, none, none, none] m = .ex ⟨"NoThread", ["value"], [.int num]⟩ (m ++ [.lst ((behT num s.2).map thD)]) from (e _).trans (e3 _)]
theorem takenY (hi : IsP qq r m W c s) (P : POk s) (hc : m.all (MO.bel m.length) = true) (h : waitsT (W - heldT s.2) num s.2 = false) (h2 : thereT num s.2 = true) : m_Pool_taken [.ref qq, .int num] m = .ok (.lst ((behT num s.2).map thD)) m := by
  obtain ⟨y4, y5, y6, e⟩ := taken_run (num := num) hi P h
  rw [h2] at e
  unfold m_Pool_taken runF
  have e0 : startE 7 [D.ref qq, .int num] = [some (.ref qq), some (.int num), none, none, none, none, none] := rfl
  have e3 : sSeq (sIf (bNot (gTru (gVar 3))) (sRaise "NoThread" "value" (gVar 1)) sNext) (sRet (gVar 2)) [some (.ref qq), some (.int num), some (.ref m.length), some (.bl true), y4, y5, y6] (m ++ [.lst ((behT num s.2).map thD)]) = .rt (.ref m.length) (m ++ [.lst ((behT num s.2).map thD)]) := rfl
  rw [e0, show g_Pool_taken [some (.ref qq), some (.int num), none, none, none, none, none] m = .rt (.ref m.length) (m ++ [.lst ((behT num s.2).map thD)]) from (e _).trans e3]
  exact exitF_ref (m0 := m) (by simp) hc (Nat.le_refl _) at_m1 (bels_map fun x _ => bel_th _ x)
end
end Wk
namespace Wk
open PySem PySem.Spec L2 L3
open PyProof.Rows hiding St
section
variable {q r : Nat} {m : Sto} {W num : Int} {c : Bool} {s : PSt} {pa : List PSt} {l : List Th} {en : Sl} {z : List Int}
theorem meth1 {go ga : GE} {F : FM} {f : Str} {d : D} {o : Out D} (h : go en m = .ok (.ref q) m) (hi : IsP q r m W c s) (hx : (flP r W c s).lookup f = none) (ha : ga en m = .ok d m) (hF : F [.ref q, d] m = o) : gMeth "Pool" f 2 F go (aCons ga aNil) en m = o := by
  unfold gMeth
  rw [h, Out.bind_ok, hi]
  dsimp only
  rw [if_pos ⟨rfl, hx⟩, acons ha anil, Out.bind_ok]
  exact hF
theorem inXint {neg : Bool} {t : Int} {ts : List Int} {y : D} {m : Sto} (h : seqOf m y = some (ts.map .int)) : oInX neg (.int t) y m = .ok (.bl (if neg then !decide (t ∈ ts) else decide (t ∈ ts))) m := by
  unfold oInX
  have hf : (ts.map D.int).all flatD = true := by
    rw [List.all_eq_true]
    intro d hd
    obtain ⟨x, _, rfl⟩ := List.mem_map.mp hd
    rfl
  have ha : ∀ ts : List Int, ((ts.map D.int).any fun y => eqFlat y (.int t)) = decide (t ∈ ts) := by
    intro ts
    rw [List.any_map]
    induction ts with
    | nil => simp
    | cons x ts ih =>
      rw [List.any_cons, ih]
      simp only [Function.comp, eqFlat]
      by_cases e : x = t
      · simp [e]
      · have e' : ¬ t = x := fun q => e q.symm
        simp [e, e']
  simp only [h]
  rw [if_pos ⟨rfl, hf⟩, ha]
abbrev enK (q : Nat) (num : Int) (l : List Th) (d3 d4 : Option D) : Sl := [some (.ref q), some (.int num), some (.lst (l.map thD)), d3, d4, none, none, none, none]
theorem asg_ex {ge : GE} {gn : GT} {e : Exn} {m1 : Sto} (h : ge en m = .ex e m1) {f : GS} : sSeq (sAsg ge gn) f en m = .ex e m1 := by
  unfold sSeq sAsg
  rw [h]
  rfl
theorem takeEx (hi : IsP q r m W c s) {e : Exn} {m1 : Sto} (h : m_Pool_taken [.ref q, .int num] m = .ex e m1) : m_Pool_take [.ref q, .int num] m = .ex e m1 := by
  have h1 : gMeth "Pool" "taken" 2 m_Pool_taken (gVar 0) (aCons (gVar 1) aNil) [some (.ref q), some (.int num), none, none, none, none, none, none, none] m = .ex e m1 := meth1 rfl hi rfl rfl h
  unfold m_Pool_take runF g_Pool_take
  rw [show startE 9 [D.ref q, .int num] = [some (.ref q), some (.int num), none, none, none, none, none, none, none] from rfl, asg_ex h1]
noncomputable def bCare : GS := (sSeq (sAsg (gBin oSub (gFld "Pool" "whole" (gVar 0)) (gB bSumS (aCons (gLc (iSeq (gVar 2)) (nTup 3 (nCons (nName 5) (nCons (nName 6) (nCons (nName 7) nNil)))) cYes (gB bSumS (aCons (gCut (gVar 6) none (some (gVar 7))) aNil)) [5, 6, 7]) aNil))) (nName 3))
  (sSeq (sAsg (gCall 2 m_lost_among (aCons (gVar 3) (aCons (gLc (iSeq (gVar 2)) (nName 8) (gAs (gBin oGt (gBin oIx (gVar 8) (gC (.int 2))) (gC (.int 0)))) (gVar 8) [8]) aNil))) (nName 4))
  (sIf (gAs (gBin oNeX (gVar 4) (gTup aNil)))
  (sRaise "Unsafe" "threads" (gVar 4))
  sNext)))
theorem care_ok (hi : IsP q r m W c s) (ok : ∀ x ∈ l, ThOk x) (nd : (numT l).Nodup) (hl : l.length ≤ 100) (hz : IsLost (W - heldT l) l z) : bCare (enK q num l none none) m = if z.isEmpty = true then .nx (enK q num l (some (.int (W - heldT l))) (some (.tup (z.map .int)))) m else .ex ⟨"Unsafe", ["threads"], [.tup (z.map .int)]⟩ m := by
  have e1 : gLc (iSeq (gVar 2)) (nTup 3 (nCons (nName 5) (nCons (nName 6) (nCons (nName 7) nNil)))) cYes (gB bSumS (aCons (gCut (gVar 6) none (some (gVar 7))) aNil)) [5, 6, 7] (enK q num l none none) m = .ok (.lst ((l.map hldT).map .int)) m := by
    have := lc_mapA (gi := iSeq (gVar 2)) (t := nTup 3 (nCons (nName 5) (nCons (nName 6) (nCons (nName 7) nNil)))) (c := cYes) (g := gB bSumS (aCons (gCut (gVar 6) none (some (gVar 7))) aNil)) (vs := [5, 6, 7]) (en := enK q num l none none) (m := m)
      (src := ⟨l.map thD, []⟩) (l := l) thD (fun _ => true) (fun x => .int (hldT x)) rfl rfl (Src.ok_fixed _ _) (by rw [sizeLine_eq]; omega) (fun x hx => by
        have hh := @hld_ok m x (ok x hx).p0
        rw [thD_eq]
        simp -implicitDefEqProofs only [tupOf, wipeE, hh, sSeq, sAsg, sRet, sRetN, sIf, sExpr, sPar, sPar3, sNext, gBin, gUn, gAs, gChain, gIf, gB, gBM, gCall, aCons, aNil, gTru, bNot, bAnd, bOr, gAnd, gOr, gNot, L3.gTup, L3.gLst, gLstM, gCut, gPart, gFld, gDget1, gDisp, gPairs, gDnewK, nTup, nCons, nNil, nSub, nFld, nName_eq, gVar_0, gVar_s, gC_eq, cYes, sat_ok, sat_bad, sat_bind, sat_guard, sat_if, sat_nox, sat_nx, sat_rt, sat_bk, sat_ct, sat_sbad, sat_sif, sat_ofOut, sat_then, Out.bind_ok, startE, List.map_cons, List.map_nil, List.length_cons, List.length_nil, List.replicate_succ, List.replicate_zero, List.cons_append, List.nil_append, List.append_nil, List.set_cons_zero, List.set_cons_succ, Nat.reduceSub, Nat.reduceAdd, if_true, if_false, Bool.false_eq_true, oAdd_i, oSub_i, oMul_i, oDiv_i, oMod_i, oPow3_i, oNeg_i, oI_i, oLt_i, oEqS_s, oIsN_eq, oNotN_eq, truD_b, truD_i, bAbs_i, bInt_b, bInt_i, bMax2_i, bMin2_i, srcT_0, srcT_1, srcT_2, srcT_p0, srcT_p2, exitF_1, exitF_0, exitK_eq, decide_eq_true_eq, Nat.zero_add, if_f, eq_self, true_and, and_true, bLen_scr, bLen_lst, bLen_tup, bTuple_lst, bTuple_tup, bAny_b, bAll_b, bSortedSet_i, bSortedSetX_i, oEq_ii]
        exact fun _ => trivial)
    rw [this, List.filter_eq_self.mpr fun _ _ => rfl, List.map_map]
    rfl
  have e2 : gBin oSub (gFld "Pool" "whole" (gVar 0)) (gB bSumS (aCons (gLc (iSeq (gVar 2)) (nTup 3 (nCons (nName 5) (nCons (nName 6) (nCons (nName 7) nNil)))) cYes (gB bSumS (aCons (gCut (gVar 6) none (some (gVar 7))) aNil)) [5, 6, 7]) aNil)) (enK q num l none none) m = .ok (.int (W - heldT l)) m := by
    have e0 : gFld "Pool" "whole" (gVar 0) (enK q num l none none) m = .ok (.int W) m := by
      simp only [gFld, gVar_0, Out.bind_ok, hi, lkW, if_true]
    rw [binOk e0 ((gb_ok (acons e1 anil)).trans (sumLst _))]
    rfl
  have e3 : gLc (iSeq (gVar 2)) (nName 8) (gAs (gBin oGt (gBin oIx (gVar 8) (gC (.int 2))) (gC (.int 0)))) (gVar 8) [8] (enK q num l (some (.int (W - heldT l))) none) m = .ok (.lst ((begT l).map thD)) m := by
    refine lc_mapA (src := ⟨l.map thD, []⟩) (l := l) thD (fun x => decide (0 < x.2.2)) thD rfl rfl (Src.ok_fixed _ _) (by rw [sizeLine_eq]; omega) ?_
    intro x hx
    have i2 : ∀ m', oIx (thD x) (.int 2) m' = .ok (.int x.2.2) m' := fun _ => rfl
    simp -implicitDefEqProofs only [wipeE, i2, oGt, sSeq, sAsg, sRet, sRetN, sIf, sExpr, sPar, sPar3, sNext, gBin, gUn, gAs, gChain, gIf, gB, gBM, gCall, aCons, aNil, gTru, bNot, bAnd, bOr, gAnd, gOr, gNot, L3.gTup, L3.gLst, gLstM, gCut, gPart, gFld, gDget1, gDisp, gPairs, gDnewK, nTup, nCons, nNil, nSub, nFld, nName_eq, gVar_0, gVar_s, gC_eq, cYes, sat_ok, sat_bad, sat_bind, sat_guard, sat_if, sat_nox, sat_nx, sat_rt, sat_bk, sat_ct, sat_sbad, sat_sif, sat_ofOut, sat_then, Out.bind_ok, startE, List.map_cons, List.map_nil, List.length_cons, List.length_nil, List.replicate_succ, List.replicate_zero, List.cons_append, List.nil_append, List.append_nil, List.set_cons_zero, List.set_cons_succ, Nat.reduceSub, Nat.reduceAdd, if_true, if_false, Bool.false_eq_true, oAdd_i, oSub_i, oMul_i, oDiv_i, oMod_i, oPow3_i, oNeg_i, oI_i, oLt_i, oEqS_s, oIsN_eq, oNotN_eq, truD_b, truD_i, bAbs_i, bInt_b, bInt_i, bMax2_i, bMin2_i, srcT_0, srcT_1, srcT_2, srcT_p0, srcT_p2, exitF_1, exitF_0, exitK_eq, decide_eq_true_eq, Nat.zero_add, if_f, eq_self, true_and, and_true, bLen_scr, bLen_lst, bLen_tup, bTuple_lst, bTuple_tup, bAny_b, bAll_b, bSortedSet_i, bSortedSetX_i, oEq_ii]
    exact fun _ => trivial
  obtain ⟨z', hz', e4⟩ := ok_lost_amongP (m := m) (free := W - heldT l) ok nd hl
  obtain rfl := hz.same ok hz'
  have e5 : gCall 2 m_lost_among (aCons (gVar 3) (aCons (gLc (iSeq (gVar 2)) (nName 8) (gAs (gBin oGt (gBin oIx (gVar 8) (gC (.int 2))) (gC (.int 0)))) (gVar 8) [8]) aNil)) (enK q num l (some (.int (W - heldT l))) none) m = .ok (.tup (z.map .int)) m := by
    unfold gCall
    rw [acons rfl (acons e3 anil)]
    exact e4
  have e6 : gAs (gBin oNeX (gVar 4) (gTup aNil)) (enK q num l (some (.int (W - heldT l))) (some (.tup (z.map .int)))) m = .ok (!z.isEmpty) m := by
    cases z <;> rfl
  unfold bCare
  rw [seq_nx (asg_nx e2)]
  refine (seq_nx (asg_nx e5)).trans ?_
  cases hze : z.isEmpty with
  | true =>
    rw [hze] at e6
    rw [if_pos rfl]
    exact (if_no e6).trans rfl
  | false =>
    rw [hze] at e6
    rw [if_neg (by simp)]
    exact (if_yes e6).trans rfl
noncomputable def bRest : GS := (sSeq (sExpr (gMeth "Pool" "go_on" 3 m_Pool_go_on (gVar 0) (aCons (gBin oIx (gFld "Pool" "present" (gVar 0)) (gC (.int 0))) (aCons (gVar 2) aNil))))
  (sRet (gBin (oInX true) (gVar 1) (gLc (iSeq (gVar 2)) (nName 8) cYes (gBin oIx (gVar 8) (gC (.int 0))) [8]))))
theorem rest_ok {d3 d4 : Option D} (h : AtQ q r m W c s pa) (hl : l.length ≤ 100) (hpa : pa.length ≤ 100000) : bRest (enK q num l d3 d4) m = .rt (.bl (!decide (num ∈ numT l))) (upQ q r m W c (s.1, l) (pa ++ [s])) := by
  have hi := h.isP
  have h1 : gMeth "Pool" "go_on" 3 m_Pool_go_on (gVar 0) (aCons (gBin oIx (gFld "Pool" "present" (gVar 0)) (gC (.int 0))) (aCons (gVar 2) aNil)) (enK q num l d3 d4) m = .ok .non (upQ q r m W c (s.1, l) (pa ++ [s])) := by
    have ea : (aCons (gBin oIx (gFld "Pool" "present" (gVar 0)) (gC (.int 0))) (aCons (gVar 2) aNil)) (enK q num l d3 d4) m = .ok [.int s.1, .lst (l.map thD)] m := by
      have e0 : gBin oIx (gFld "Pool" "present" (gVar 0)) (gC (.int 0)) (enK q num l d3 d4) m = .ok (.int s.1) m := by
        rw [binOk (fldQ (q := q) (d := stP s) rfl hi lkP) (gC_eq)]
        rfl
      exact acons e0 (acons rfl anil)
    exact methQ rfl hi rfl ea rfl (ok_go_on h hpa)
  have h2 : gLc (iSeq (gVar 2)) (nName 8) cYes (gBin oIx (gVar 8) (gC (.int 0))) [8] (enK q num l d3 d4) (upQ q r m W c (s.1, l) (pa ++ [s])) = .ok (.lst ((numT l).map .int)) (upQ q r m W c (s.1, l) (pa ++ [s])) := by
    generalize upQ q r m W c (s.1, l) (pa ++ [s]) = mm
    have := lc_mapA (gi := iSeq (gVar 2)) (t := nName 8) (c := cYes) (g := gBin oIx (gVar 8) (gC (.int 0))) (vs := [8]) (en := enK q num l d3 d4) (m := mm)
      (src := ⟨l.map thD, []⟩) (l := l) thD (fun _ => true) (fun x => .int x.1) rfl rfl (Src.ok_fixed _ _) (by rw [sizeLine_eq]; omega) (fun x hx => by
        have i0 : ∀ m', oIx (thD x) (.int 0) m' = .ok (.int x.1) m' := fun _ => rfl
        simp -implicitDefEqProofs only [wipeE, i0, sSeq, sAsg, sRet, sRetN, sIf, sExpr, sPar, sPar3, sNext, gBin, gUn, gAs, gChain, gIf, gB, gBM, gCall, aCons, aNil, gTru, bNot, bAnd, bOr, gAnd, gOr, gNot, L3.gTup, L3.gLst, gLstM, gCut, gPart, gFld, gDget1, gDisp, gPairs, gDnewK, nTup, nCons, nNil, nSub, nFld, nName_eq, gVar_0, gVar_s, gC_eq, cYes, sat_ok, sat_bad, sat_bind, sat_guard, sat_if, sat_nox, sat_nx, sat_rt, sat_bk, sat_ct, sat_sbad, sat_sif, sat_ofOut, sat_then, Out.bind_ok, startE, List.map_cons, List.map_nil, List.length_cons, List.length_nil, List.replicate_succ, List.replicate_zero, List.cons_append, List.nil_append, List.append_nil, List.set_cons_zero, List.set_cons_succ, Nat.reduceSub, Nat.reduceAdd, if_true, if_false, Bool.false_eq_true, oAdd_i, oSub_i, oMul_i, oDiv_i, oMod_i, oPow3_i, oNeg_i, oI_i, oLt_i, oEqS_s, oIsN_eq, oNotN_eq, truD_b, truD_i, bAbs_i, bInt_b, bInt_i, bMax2_i, bMin2_i, srcT_0, srcT_1, srcT_2, srcT_p0, srcT_p2, exitF_1, exitF_0, exitK_eq, decide_eq_true_eq, Nat.zero_add, if_f, eq_self, true_and, and_true, bLen_scr, bLen_lst, bLen_tup, bTuple_lst, bTuple_tup, bAny_b, bAll_b, bSortedSet_i, bSortedSetX_i, oEq_ii]
        exact fun _ => trivial)
    rw [this, List.filter_eq_self.mpr fun _ _ => rfl]
    unfold numT
    rw [List.map_map]
    rfl
  unfold bRest
  rw [seq_nx (expr_nx h1)]
  unfold sRet
  rw [binOk (a := .int num) rfl h2, inXint (ts := numT l) rfl]
  rfl
theorem takeOk (h0 : AtQ q r m W c s pa) (P : POk s) (hpa : pa.length ≤ 100000) (hc : m.all (MO.bel m.length) = true) (h : waitsT (W - heldT s.2) num s.2 = false) (h2 : thereT num s.2 = true) (hz : IsLost (W - heldT (behT num s.2)) (behT num s.2) z) :
    m_Pool_take [.ref q, .int num] m = if (c && !z.isEmpty) = true then .ex ⟨"Unsafe", ["threads"], [.tup (z.map .int)]⟩ m else .ok (.bl (!decide (num ∈ numT (behT num s.2)))) (upQ q r m W c (s.1, behT num s.2) (pa ++ [s])) := by
  have hi := h0.isP
  have PB := P.beh (num := num)
  have h1 : gMeth "Pool" "taken" 2 m_Pool_taken (gVar 0) (aCons (gVar 1) aNil) [some (.ref q), some (.int num), none, none, none, none, none, none, none] m = .ok (.lst ((behT num s.2).map thD)) m := meth1 rfl hi rfl rfl (takenY hi P hc h h2)
  have hcare := care_ok (num := num) hi PB.ok PB.nod PB.l100 hz
  unfold m_Pool_take runF
  rw [show startE 9 [D.ref q, .int num] = [some (.ref q), some (.int num), none, none, none, none, none, none, none] from rfl]
  have eg : g_Pool_take [some (.ref q), some (.int num), none, none, none, none, none, none, none] m = sSeq (sIf (gTru (gFld "Pool" "is_careful" (gVar 0))) bCare sNext) bRest (enK q num (behT num s.2) none none) m := seq_nx (asg_nx h1)
  rw [eg]
  have hcf : gTru (gFld "Pool" "is_careful" (gVar 0)) (enK q num (behT num s.2) none none) m = .ok c m := by
    unfold gTru
    rw [fldQ (q := q) (d := .bl c) rfl hi lkC]
    rfl
  cases c with
  | false =>
    rw [show sSeq (sIf (gTru (gFld "Pool" "is_careful" (gVar 0))) bCare sNext) bRest (enK q num (behT num s.2) none none) m = bRest (enK q num (behT num s.2) none none) m from seq_nx ((if_no hcf).trans rfl), rest_ok h0 PB.l100 hpa]
    rw [if_neg (by simp)]
    exact exitF_len upQ_len
  | true =>
    have e2 : sIf (gTru (gFld "Pool" "is_careful" (gVar 0))) bCare sNext (enK q num (behT num s.2) none none) m = bCare (enK q num (behT num s.2) none none) m := if_yes hcf
    cases hze : z.isEmpty with
    | true =>
      rw [hze, if_pos rfl] at hcare
      rw [seq_nx (e2.trans hcare), rest_ok h0 PB.l100 hpa, if_neg (by simp)]
      exact exitF_len upQ_len
    | false =>
      rw [hze, if_neg (by simp)] at hcare
      rw [if_pos (by simp)]
      unfold sSeq
      rw [e2, hcare]
      rfl
end
end Wk
namespace Wk
open PySem PySem.Spec L2 L3
open PyProof.Rows hiding St
section
variable {m m1 m2 : Sto} {W B : Int} {c : Bool} {s : PSt} {pa : List PSt} {q r k : Nat} {en : Sl} {ge go : GE} {fs : List (Str × D)} {d : D}
theorem ok_size_check (h0 : 0 ≤ W) (h1 : W ≤ 10 ^ 30) : m_check_size [.int W] m = .ok .non m := by
  have hv : av (10 ^ 31) (.int W) = true := by unfold av; simp; omega
  have hp : btw 0 (10 ^ 30) (.int W) = true := by
    show (decide (0 ≤ W) && decide (W ≤ 10 ^ 30)) = true
    rw [decide_eq_true h0, decide_eq_true h1]; rfl
  have hb : m_is_between [.int W, .int 0, .int 1000000000000000000000000000000] m = .ok (.bl true) m := by
    rw [betweenX hv]
    exact congrArg (fun b => Out.ok (D.bl b) m) hp
  unfold m_check_size runF g_check_size
  simp -implicitDefEqProofs only [hb, Bool.not_true, exitF_len, sSeq, sAsg, sRet, sRetN, sIf, sExpr, sPar, sPar3, sNext, gBin, gUn, gAs, gChain, gIf, gB, gBM, gCall, aCons, aNil, gTru, bNot, bAnd, bOr, gAnd, gOr, gNot, L3.gTup, L3.gLst, gLstM, gCut, gPart, gFld, gDget1, gDisp, gPairs, gDnewK, nTup, nCons, nNil, nSub, nFld, nName_eq, gVar_0, gVar_s, gC_eq, cYes, Out.bind_ok, startE, List.map_cons, List.map_nil, List.length_cons, List.length_nil, List.replicate_succ, List.replicate_zero, List.cons_append, List.nil_append, List.append_nil, List.set_cons_zero, List.set_cons_succ, Nat.reduceSub, Nat.reduceAdd, if_true, if_false, Bool.false_eq_true, oAdd_i, oSub_i, oMul_i, oDiv_i, oMod_i, oPow3_i, oNeg_i, oI_i, oLt_i, oEqS_s, oIsN_eq, oNotN_eq, truD_b, truD_i, bAbs_i, bInt_b, bInt_i, bMax2_i, bMin2_i, srcT_0, srcT_1, srcT_2, srcT_p0, srcT_p2, exitF_1, exitF_0, exitK_eq, decide_eq_true_eq, Nat.zero_add, if_f, eq_self, true_and, and_true, bLen_scr, bLen_lst, bLen_tup, bTuple_lst, bTuple_tup, bAny_b, bAll_b, bSortedSet_i, bSortedSetX_i, oEq_ii, sRaise, SO.ofOut_ok, SO.ofOut_ex, SO.then_nx, SO.then_rt, SO.then_ex, Out.bind_ex]
theorem setF {f : Str} (hg : ge en m1 = .ok d m2) (h0 : go en m2 = .ok (.ref k) m2) (hi : m2[k]? = some (.ins "Pool" fs)) (hl : fs.length < 1000) : sAsg ge (nFld "Pool" f go) en m1 = .nx en (m2.set k (.ins "Pool" (putF3 f d fs))) := by
  have e : nFld "Pool" f go d en m2 = .ok en (m2.set k (.ins "Pool" (putF3 f d fs))) := by
    unfold nFld
    rw [h0]
    simp only [Out.bind_ok]
    have ep : oPutF "Pool" f (.ref k) d m2 = some (m2.set k (.ins "Pool" (putF3 f d fs))) := by
      unfold oPutF
      simp only [hi]
      rw [if_pos ⟨trivial, hl⟩]
    rw [ep]
  unfold sAsg
  rw [hg, SO.ofOut_ok, e]
  rfl
theorem at_n1 {x : MO} : (m ++ [x])[m.length]? = some x := by simp
theorem set_n1 {x y : MO} : (m ++ [x]).set m.length y = m ++ [y] := by rw [List.set_append_right _ _ (Nat.le_refl _)]; simp
theorem at_n2 {x y : MO} : (m ++ [x, y])[m.length]? = some x := by simp
theorem set_n2 {x y z : MO} : (m ++ [x, y]).set m.length z = m ++ [z, y] := by rw [List.set_append_right _ _ (Nat.le_refl _)]; simp
theorem at_n3 {x y u : MO} : (m ++ [x, y, u])[m.length]? = some x := by simp
theorem set_n3 {x y z u : MO} : (m ++ [x, y, u]).set m.length z = m ++ [z, y, u] := by rw [List.set_append_right _ _ (Nat.le_refl _)]; simp
theorem ok_init (h0 : 0 ≤ W) (h1 : W ≤ 10 ^ 30) : m_Pool_init [.ref m.length, .int W, .bl c] (m ++ [.ins "Pool" []]) = .ok .non (m ++ [.ins "Pool" (flP (m.length + 1) W c (0, [])), .lst []]) := by
  have ec : gCall 1 m_check_size (aCons (gVar 1) aNil) [some (.ref m.length), some (.int W), some (.bl c)] (m ++ [.ins "Pool" []]) = .ok .non (m ++ [.ins "Pool" []]) := by
    unfold gCall
    rw [acons rfl anil]
    exact ok_size_check h0 h1
  have v0 : ∀ mm : Sto, gVar 0 [some (D.ref m.length), some (.int W), some (.bl c)] mm = .ok (.ref m.length) mm := fun _ => rfl
  have s1 := setF (f := "whole") (fs := []) (ge := gVar 1) (go := gVar 0) (en := [some (D.ref m.length), some (.int W), some (.bl c)]) (m1 := m ++ [.ins "Pool" []]) (d := .int W) rfl (v0 _) at_n1 (show (0 : Nat) < 1000 by decide)
  rw [set_n1] at s1
  have s2 := setF (f := "is_careful") (fs := putF3 "whole" (.int W) []) (ge := gVar 2) (go := gVar 0) (en := [some (D.ref m.length), some (.int W), some (.bl c)]) (m1 := m ++ [.ins "Pool" (putF3 "whole" (.int W) [])]) (d := .bl c) rfl (v0 _) at_n1 (show (1 : Nat) < 1000 by decide)
  rw [set_n1] at s2
  have s3 := setF (f := "present") (fs := putF3 "is_careful" (.bl c) (putF3 "whole" (.int W) [])) (ge := gTup (aCons (gC (.int 0)) (aCons (gTup aNil) aNil))) (go := gVar 0) (en := [some (D.ref m.length), some (.int W), some (.bl c)]) (m1 := m ++ [.ins "Pool" (putF3 "is_careful" (.bl c) (putF3 "whole" (.int W) []))]) (d := .tup [.int 0, .tup []]) rfl (v0 _) at_n1 (show (2 : Nat) < 1000 by decide)
  rw [set_n1] at s3
  have s4 := setF (f := "past") (fs := putF3 "present" (.tup [.int 0, .tup []]) (putF3 "is_careful" (.bl c) (putF3 "whole" (.int W) []))) (ge := gLstM aNil) (go := gVar 0) (en := [some (D.ref m.length), some (.int W), some (.bl c)]) (m1 := m ++ [.ins "Pool" (putF3 "present" (.tup [.int 0, .tup []]) (putF3 "is_careful" (.bl c) (putF3 "whole" (.int W) [])))]) (m2 := m ++ [.ins "Pool" (putF3 "present" (.tup [.int 0, .tup []]) (putF3 "is_careful" (.bl c) (putF3 "whole" (.int W) []))), .lst []]) (d := .ref (m.length + 1)) (by
    have e : ∀ mm : Sto, gLstM aNil [some (D.ref m.length), some (.int W), some (.bl c)] mm = .ok (.ref mm.length) (mm ++ [.lst []]) := fun _ => rfl
    rw [e, List.length_append, List.append_assoc]; rfl) (v0 _) at_n2 (show (3 : Nat) < 1000 by decide)
  rw [set_n2] at s4
  unfold m_Pool_init runF g_Pool_init
  rw [show startE 3 [D.ref m.length, .int W, .bl c] = [some (.ref m.length), some (.int W), some (.bl c)] from rfl, seq_nx (expr_nx ec), seq_nx s1, seq_nx s2, seq_nx s3, s4]
  rfl
theorem ok_makeQ {gs gk : GA} (h0 : 0 ≤ W) (h1 : W ≤ 10 ^ 30) (hs : gs en m = .ok [.int W] m) (hk : gk en m = .ok [.bl c] m) : gMakeMK "Pool" 1 1 [0, 1, 2] m_Pool_init gs gk en m = .ok (.ref m.length) (m ++ [.ins "Pool" (flP (m.length + 1) W c (0, [])), .lst []]) := by
  unfold gMakeMK
  rw [hs]
  simp only [Out.bind_ok]
  rw [hk]
  simp only [Out.bind_ok]
  have hi := ok_init (m := m) (c := c) h0 h1
  generalize m_Pool_init = F at hi ⊢
  show (F [.ref m.length, .int W, .bl c] (m ++ [.ins "Pool" []])).bind _ = _
  rw [hi]
  rfl
abbrev cpQ (m : Sto) (W : Int) (c : Bool) (s : PSt) (pa : List PSt) : Sto := m ++ [.ins "Pool" (flP (m.length + 2) W c s), .lst [], .lst (pa.map stP)]
theorem ok_copy (h : AtQ q r m W c s pa) (h0 : 0 ≤ W) (h1 : W ≤ 10 ^ 30) : m_Pool_copy [.ref q] m = .ok (.ref m.length) (cpQ m W c s pa) := by
  have hi := h.isP
  have w0 : ∀ (x : Option D) (mm : Sto), gVar 0 [some (D.ref q), x] mm = .ok (.ref q) mm := fun _ _ => rfl
  have v1 : ∀ mm : Sto, gVar 1 [some (D.ref q), some (.ref m.length)] mm = .ok (.ref m.length) mm := fun _ => rfl
  have e1 := ok_makeQ (m := m) (en := [some (D.ref q), none]) (c := c) (gs := aCons (gFld "Pool" "whole" (gVar 0)) aNil) (gk := aCons (gFld "Pool" "is_careful" (gVar 0)) aNil) h0 h1 (acons (fldQ (w0 _ _) hi lkW) anil) (acons (fldQ (w0 _ _) hi lkC) anil)
  have hi2 : ∀ x y : MO, IsP q r (m ++ [x, y]) W c s := fun x y => by
    have := (hi.app (z := x)).app (z := y)
    rw [List.append_assoc] at this
    exact this
  have s2 := setF (f := "present") (fs := flP (m.length + 1) W c (0, [])) (ge := gFld "Pool" "present" (gVar 0)) (go := gVar 1) (en := [some (D.ref q), some (.ref m.length)]) (m1 := m ++ [.ins "Pool" (flP (m.length + 1) W c (0, [])), .lst []]) (d := stP s) (fldQ (w0 _ _) (hi2 _ _) lkP) (v1 _) at_n2 (show (4 : Nat) < 1000 by decide)
  rw [set_n2] at s2
  have e2 : putF3 "present" (stP s) (flP (m.length + 1) W c (0, [])) = flP (m.length + 1) W c s := rfl
  rw [e2] at s2
  have e3 : gB bListM (aCons (gFld "Pool" "past" (gVar 0)) aNil) [some (D.ref q), some (.ref m.length)] (m ++ [.ins "Pool" (flP (m.length + 1) W c s), .lst []]) = .ok (.ref (m.length + 2)) (m ++ [.ins "Pool" (flP (m.length + 1) W c s), .lst [], .lst (pa.map stP)]) := by
    rw [gb_ok (acons (fldQ (w0 _ _) (hi2 _ _) lkA) anil)]
    have hp : (m ++ [MO.ins "Pool" (flP (m.length + 1) W c s), .lst []])[r]? = some (.lst (pa.map stP)) := by rw [List.getElem?_append_left h.lr]; exact h.p
    unfold bListM
    have es : seqOf (m ++ [MO.ins "Pool" (flP (m.length + 1) W c s), .lst []]) (.ref r) = some (pa.map stP) := by
      unfold seqOf lstOf
      simp only [hp]
    simp only [es]
    rw [List.length_append, List.append_assoc]
    rfl
  have s3 := setF (f := "past") (go := gVar 1) (fs := flP (m.length + 1) W c s) (k := m.length) e3 (v1 _) at_n3 (show (4 : Nat) < 1000 by decide)
  rw [set_n3] at s3
  have e4 : putF3 "past" (.ref (m.length + 2)) (flP (m.length + 1) W c s) = flP (m.length + 2) W c s := rfl
  rw [e4] at s3
  unfold m_Pool_copy runF g_Pool_copy
  rw [show startE 2 [D.ref q] = [some (.ref q), none] from rfl, seq_nx (asg_nx (i := 1) e1)]
  rw [show List.set [some (D.ref q), none] 1 (some (D.ref m.length)) = [some (D.ref q), some (.ref m.length)] from rfl, seq_nx s2, seq_nx s3]
  rfl
end
end Wk
namespace Wk
open PySem PySem.Spec L2 L3
open PyProof.Rows hiding St
structure PQ (n : Nat) (s : PSt) (pa : List PSt) : Prop where
  ok : ∀ t ∈ pa ++ [s], POk t ∧ t.1 ≤ (n : Int) ∧ t.2.length ≤ n
  len : pa.length ≤ n
  hd : (pa ++ [s]).head? = some (0, [])
section
variable {n k : Nat} {s s' : PSt} {pa : List PSt}
theorem PQ.p (h : PQ n s pa) : POk s := (h.ok s (by simp)).1
theorem PQ.mono (h : PQ n s pa) (hk : n ≤ k) : PQ k s pa := ⟨fun t ht => let ⟨a, b, c⟩ := h.ok t ht; ⟨a, by omega, by omega⟩, by have := h.len; omega, h.hd⟩
theorem PQ.push (h : PQ n s pa) (p : POk s') (h1 : s'.1 ≤ (n + 1 : Nat)) (h2 : s'.2.length ≤ n + 1) : PQ (n + 1) s' (pa ++ [s]) where
  ok := fun t ht => by
    rcases List.mem_append.mp ht with q | q
    · obtain ⟨a, b, c⟩ := h.ok t q
      exact ⟨a, by omega, by omega⟩
    · rw [List.mem_singleton.mp q]
      exact ⟨p, h1, h2⟩
  len := by have := h.len; rw [List.length_append]; simp only [List.length_cons, List.length_nil]; omega
  hd := by
    have := h.hd
    rw [List.head?_append, this]; rfl
theorem PQ.pop (h : PQ n s (pa ++ [s'])) : PQ n s' pa where
  ok := fun t ht => h.ok t (List.mem_append_left _ ht)
  len := by have := h.len; rw [List.length_append] at this; omega
  hd := by
    have := h.hd
    rw [List.head?_append] at this
    cases e : (pa ++ [s']).head? with
    | none => rw [List.head?_eq_none_iff] at e; exact absurd e (by simp)
    | some z => rw [e] at this; simpa using this
theorem POk.zero0 : POk (0, []) := ⟨nofun, List.Pairwise.nil, nofun, Nat.zero_le _, Int.le_refl _, by show (0 : Int) ≤ 1000; decide⟩
theorem PQ.zero : PQ 0 (0, []) [] := ⟨fun t ht => by rw [List.mem_singleton.mp ht]; exact ⟨POk.zero0, Int.le_refl _, Nat.le_refl _⟩, Nat.le_refl _, rfl⟩
theorem POk.beg {ns : List Int} (P : POk s) (hp : IsPlan ns) (hl : s.2.length < 100) (ha : s.1 < 1000) : POk (s.1 + 1, s.2 ++ [(s.1, ns, 0)]) where
  ok := fun y hy => by
    rcases List.mem_append.mp hy with q | q
    · exact P.ok y q
    · rw [List.mem_singleton.mp q]
      exact ⟨hp, Int.le_refl _, by have := List.length_pos_iff.mpr hp.ne; show (0 : Int) < ns.length; omega⟩
  pw := by
    unfold numT
    rw [List.map_append, List.pairwise_append]
    refine ⟨P.pw, List.pairwise_singleton _ _, fun a ha b hb => ?_⟩
    rw [List.mem_singleton.mp hb]
    obtain ⟨y, hy, rfl⟩ := List.mem_map.mp ha
    exact (P.lo y hy).2
  lo := fun y hy => by
    rcases List.mem_append.mp hy with q | q
    · have := P.lo y q
      show 0 ≤ y.1 ∧ y.1 < s.1 + 1
      omega
    · rw [List.mem_singleton.mp q]
      have := P.a0
      show 0 ≤ s.1 ∧ s.1 < s.1 + 1
      omega
  len := by rw [List.length_append]; simp only [List.length_cons, List.length_nil]; omega
  a0 := by have := P.a0; show 0 ≤ s.1 + 1; omega
  a1 := by show s.1 + 1 ≤ 1000; omega
theorem PQ.begin {ns : List Int} (h : PQ n s pa) (hp : IsPlan ns) (hn : n < 100) : PQ (n + 1) (s.1 + 1, s.2 ++ [(s.1, ns, 0)]) (pa ++ [s]) := by
  obtain ⟨a, b, c⟩ := h.ok s (by simp)
  refine h.push (a.beg hp (by omega) (by omega)) (by show s.1 + 1 ≤ _; omega) ?_
  rw [List.length_append]
  simp only [List.length_cons, List.length_nil]; omega
theorem PQ.take {num : Int} (h : PQ n s pa) : PQ (n + 1) (s.1, behT num s.2) (pa ++ [s]) := by
  obtain ⟨a, b, c⟩ := h.ok s (by simp)
  exact h.push a.beh (by show s.1 ≤ _; omega) (Nat.le_trans (beh_len s.2) (by omega))
end
section
variable {q r k : Nat} {m : Sto} {W : Int} {c : Bool} {s : PSt} {pa : List PSt}
theorem oEqPastR (h : m[r]? = some (.lst (pa.map stP))) : oEq false (.ref r) (.lst []) m = .ok (.bl pa.isEmpty) m := by
  have hv : viewL m (.ref r) = .lst (pa.map stP) := by unfold viewL; simp only [h]
  have hv2 : viewL m (.lst []) = .lst [] := rfl
  have e : PyData.eqv (pd (.lst (pa.map stP))) (pd (.lst [])) = pa.isEmpty := by
    cases pa with
    | nil => unfold pd PyData.eqv; rfl
    | cons p ps => unfold pd; simp only [List.map_cons, pds]; unfold PyData.eqv; rfl
  unfold oEq
  rw [hv, hv2, if_pos ⟨by
    unfold D.dp
    rw [dps_all, List.all_eq_true]
    intro d hd
    obtain ⟨y, hy, rfl⟩ := List.mem_map.mp hd
    exact dpSt 55 y, by unfold D.dp; rfl⟩]
  simp only [e]
  rfl
theorem undo_test (h : AtQ q r m W c s pa) : gAs (gBin (oEq false) (gFld "Pool" "past" (gVar 0)) (L3.gLst aNil)) [some (.ref q)] m = .ok pa.isEmpty m := by
  have e1 : gFld "Pool" "past" (gVar 0) [some (.ref q)] m = .ok (.ref r) m := fldQ rfl h.isP lkA
  have e2 : L3.gLst aNil [some (.ref q)] m = .ok (.lst []) m := lstOk rfl (Nat.zero_le _)
  unfold gAs gBin
  rw [e1, Out.bind_ok, e2, Out.bind_ok, oEqPastR h.p]
  rfl
theorem ok_undoN (h : AtQ q r m W c s []) : m_Pool_undo [.ref q] m = .ex ⟨"NothingToUndo", [], []⟩ m := by
  have h1 := undo_test h
  unfold m_Pool_undo runF g_Pool_undo
  rw [show startE 1 [D.ref q] = [some (.ref q)] from rfl]
  have h2 : ∀ a b : GS, sSeq (sIf (gAs (gBin (oEq false) (gFld "Pool" "past" (gVar 0)) (L3.gLst aNil))) a sNext) b [some (.ref q)] m = (a [some (.ref q)] m).then b := fun a b => by
    unfold sSeq
    rw [if_yes h1]
  rw [h2]
  rfl
theorem ok_undoQ {s' : PSt} (h : AtQ q r m W c s (pa ++ [s'])) : m_Pool_undo [.ref q] m = .ok .non (upQ q r m W c s' pa) := by
  have h1 := undo_test h
  have hne : (pa ++ [s']).isEmpty = false := by cases pa <;> rfl
  rw [hne] at h1
  have h2 : gBM "list" mPop (gFld "Pool" "past" (gVar 0)) aNil [some (.ref q)] m = .ok (stP s') (m.set r (.lst (pa.map stP))) := by
    have e1 : gFld "Pool" "past" (gVar 0) [some (.ref q)] m = .ok (.ref r) m := fldQ rfl h.isP lkA
    have e3 : mPop (.ref r) [] m = .ok (stP s') (m.set r (.lst (pa.map stP))) := by
      have hg : m[r]? = some (.lst (pa.map stP ++ [stP s'])) := by rw [h.p, List.map_append]; rfl
      unfold mPop
      simp only [hg]
      have : (pa.map stP ++ [stP s'])[(pa.map stP ++ [stP s']).length - 1]? = some (stP s') := by simp
      simp only [this, List.dropLast_concat]
      try rfl
    unfold gBM
    rw [e1, Out.bind_ok, if_pos (tyM_lst h.p)]
    exact e3
  have hq : (m.set r (.lst (pa.map stP)))[q]? = some (.ins "Pool" (flP r W c s)) := by rw [List.getElem?_set_ne (Ne.symm h.ne)]; exact h.i
  have h3 := setP (g := gVar 0) (s' := s') (en := [some (.ref q)]) (go := gVar 0) h2 rfl hq
  unfold m_Pool_undo runF g_Pool_undo
  have h4 : ∀ a b : GS, sSeq (sIf (gAs (gBin (oEq false) (gFld "Pool" "past" (gVar 0)) (L3.gLst aNil))) a sNext) b [some (.ref q)] m = b [some (.ref q)] m := fun a b => seq_nx ((if_no h1).trans rfl)
  rw [show startE 1 [D.ref q] = [some (.ref q)] from rfl, h4, h3]
  show exitF m.length .non _ = _
  rw [exitF_len (by rw [List.length_set, List.length_set])]
  unfold upQ
  rw [List.set_comm _ _ h.ne.symm]
end
structure Fr (q r : Nat) (m m' : Sto) : Prop where
  len : m'.length = m.length
  same : ∀ k, k ≠ 2 → k ≠ q → k ≠ r → m'[k]? = m[k]?
section
variable {q r q' r' k : Nat} {m m' m'' : Sto} {W : Int} {c : Bool} {s s' : PSt} {pa pa' : List PSt} {B : Int}
theorem Fr.refl : Fr q r m m := ⟨rfl, fun _ _ _ _ => rfl⟩
theorem Fr.trans (a : Fr q r m m') (b : Fr q r m' m'') : Fr q r m m'' := ⟨b.len.trans a.len, fun k h0 h1 h2 => (b.same k h0 h1 h2).trans (a.same k h0 h1 h2)⟩
theorem Fr.up : Fr q r m (upQ q r m W c s pa) := ⟨upQ_len, fun k _ h1 h2 => upQ_other h1 h2⟩
theorem Fr.ofSrc {rest : Sto} {B B' : Int} (h : SrcR B rest m) (h' : SrcR B' rest m') : Fr q r m m' := by
  obtain ⟨a, b, d, e, _⟩ := h.ex
  obtain ⟨a', b', d', e', _⟩ := h'.ex
  refine ⟨by rw [e, e']; rfl, fun k h0 _ _ => ?_⟩
  match k, h0 with
  | 0, _ => rw [e, e']; rfl
  | 1, _ => rw [e, e']; rfl
  | 2, h0 => exact absurd rfl h0
  | k + 3, _ => rw [e, e']; rfl
def So (B : Int) (m : Sto) : Prop := SrcR B (m.drop 3) m
theorem So.of {rest : Sto} (h : SrcR B rest m) : So B m := by
  obtain ⟨a, b, d, e, q⟩ := h.ex
  exact ⟨a, b, d, by rw [e]; rfl, q⟩
theorem So.mono {B' : Int} (h : So B m) (hb : B ≤ B') : So B' m := SrcR.mono h hb
theorem So.l3 (h : So B m) : 3 ≤ m.length := by
  obtain ⟨a, b, d, e, z⟩ := SrcR.ex h
  rw [e]
  simp only [List.length_cons]; omega
theorem So.t0 (h : So B m) : m[0]? = some (.tab tq0) := by
  obtain ⟨a, b, d, e, z⟩ := SrcR.ex h
  rw [e]; rfl
theorem So.t1 (h : So B m) : m[1]? = some (.tab tq1) := by
  obtain ⟨a, b, d, e, z⟩ := SrcR.ex h
  rw [e]; rfl
theorem So.same (h : So B m) (h0 : m'[0]? = m[0]?) (h1 : m'[1]? = m[1]?) (h2 : m'[2]? = m[2]?) : So B m' := by
  obtain ⟨a, b, d, e, z⟩ := SrcR.ex h
  rw [e] at h0 h1 h2
  refine ⟨a, b, d, ?_, z⟩
  match m', h0, h1, h2 with
  | [], h0, _, _ => cases h0
  | [_], _, h1, _ => cases h1
  | [_, _], _, _, h2 => cases h2
  | x :: y :: w :: l, h0, h1, h2 =>
    cases h0; cases h1; cases h2
    rfl
theorem So.up (h : So B m) (hq : 3 ≤ q) (hr : 3 ≤ r) : So B (upQ q r m W c s pa) :=
  h.same (upQ_other (by omega) (by omega)) (upQ_other (by omega) (by omega)) (upQ_other (by omega) (by omega))
theorem bel_pool {n : Nat} (h : r < n) : MO.bel n (.ins "Pool" (flP r W c s)) = true := by
  show D.bels n [.int W, .bl c, stP s, .ref r] = true
  have hs : D.bel n (stP s) = true := by
    have h : D.bels n (s.2.map thD) = true := bels_map fun x _ => bel_th n x
    unfold stP D.bel D.bels D.bels D.bels
    have h1 : D.bel n (.int s.1) = true := by unfold D.bel; rfl
    have h2 : D.bel n (.tup (s.2.map thD)) = true := by unfold D.bel; exact h
    rw [h1, h2]; rfl
  have h1 : D.bel n (.int W) = true := by unfold D.bel; rfl
  have h2 : D.bel n (.bl c) = true := by unfold D.bel; rfl
  have h3 : D.bel n (.ref r) = true := by unfold D.bel; exact decide_eq_true h
  unfold D.bels D.bels D.bels D.bels D.bels
  rw [h1, h2, h3, hs]; rfl
theorem bel_past {n : Nat} : MO.bel n (.lst (pa.map stP)) = true := by
  show D.bels n (pa.map stP) = true
  refine bels_map fun s _ => ?_
  have h : D.bels n (s.2.map thD) = true := bels_map fun x _ => bel_th n x
  unfold stP D.bel D.bels D.bels D.bels
  have h1 : D.bel n (.int s.1) = true := by unfold D.bel; rfl
  have h2 : D.bel n (.tup (s.2.map thD)) = true := by unfold D.bel; exact h
  rw [h1, h2]; rfl
theorem bel_src {n : Nat} (h : So B m) : ∀ x, m[2]? = some x → MO.bel n x = true := by
  intro x hx
  obtain ⟨a, b, d, e, _⟩ := SrcR.ex h
  rw [e] at hx
  injection hx with hx
  rw [← hx]
  simp [MO.bel, D.bels, D.bel]
abbrev Clo (m : Sto) : Prop := m.all (MO.bel m.length) = true
theorem Fr.clo (f : Fr q r m m') (hc : Clo m) (hs : So B m') (h : AtQ q r m' W c s pa) : Clo m' := by
  unfold Clo at hc ⊢
  rw [List.all_eq_true] at hc ⊢
  intro x hx
  obtain ⟨k, hk, e⟩ := List.mem_iff_getElem.mp hx
  have e2 : m'[k]? = some x := by rw [List.getElem?_eq_getElem hk, e]
  by_cases h0 : k = 2
  · subst h0; exact bel_src hs x e2
  · by_cases h1 : k = q
    · subst h1
      rw [h.i] at e2
      injection e2 with e2
      rw [← e2]
      exact bel_pool h.lr
    · by_cases h2 : k = r
      · subst h2
        rw [h.p] at e2
        injection e2 with e2
        rw [← e2]
        exact bel_past
      · rw [f.same k h0 h1 h2] at e2
        rw [f.len]
        exact hc x (List.mem_of_getElem? e2)
theorem So.cl (h : So B m) (hc : Clo m) : Cl (m.drop 3) := by
  obtain ⟨a, b, d, e, _⟩ := SrcR.ex h
  unfold Cl
  unfold Clo at hc
  have hl : m.length = (m.drop 3).length + 3 := by
    have := So.l3 h
    rw [List.length_drop]; omega
  rw [← hl, List.all_eq_true]
  rw [List.all_eq_true] at hc
  exact fun x hx => hc x (List.mem_of_mem_drop hx)
end
end Wk
namespace Wk
open PySem PySem.Spec L2 L3
open PyProof.Rows hiding St
open Classical in
noncomputable def zL (f : Int) (l : List Th) : List Int := if h : ∃ z, IsLost f l z then Classical.choose h else []
def thsD (l : List Th) : D := .tup (l.map thD)
def eqvD (a b : D) : Bool := PyData.eqv (pd a) (pd b)
section
variable {q r q' r' k : Nat} {m m1 : Sto} {W W' : Int} {c c' neg : Bool} {s s' : PSt} {pa pa' : List PSt} {en : Sl} {l : List Th}
theorem zL_is (P : POk s) (f : Int) : IsLost f s.2 (zL f s.2) := by
  obtain ⟨z, hz, _⟩ := ok_lost_amongP (m := []) (free := f) P.ok P.nod P.l100
  have hex : ∃ z, IsLost f s.2 z := ⟨z, hz⟩
  unfold zL
  rw [dif_pos hex]
  exact Classical.choose_spec hex
theorem dpThs {n : Nat} : D.dp (n + 3) (thsD l) = true := by
  unfold thsD D.dp
  rw [dps_all, List.all_eq_true]
  intro d hd
  obtain ⟨x, _, rfl⟩ := List.mem_map.mp hd
  exact dpTh n x
theorem dpI {n : Nat} {i : Int} : D.dp n (.int i) = true := by unfold D.dp; rfl
theorem oEqOk {a b : D} (ha : D.dp 60 a = true) (hb : D.dp 60 b = true) (va : viewL m a = a) (vb : viewL m b = b) : oEq false a b m = .ok (.bl (eqvD a b)) m := by
  unfold oEq
  rw [va, vb, if_pos ⟨ha, hb⟩]
  rfl
end
end Wk
namespace Wk
open PySem PySem.Spec L2 L3
open PyProof.Rows hiding St
noncomputable def sc_b : GS := sIf (gAs (gBin oLt (gVar 4) (gC (.int 2)))) (sExpr (gMeth "Pool" "begin" 2 m_Pool_begin (gVar 1) (aCons (gCall 2 m_Lplan (aCons (gVar 0) (aCons (gC (.int 6)) aNil))) aNil)))
  (sIf (gAs (gBin (oEq false) (gVar 4) (gC (.int 2)))) (sExpr (gMeth "Pool" "undo" 1 m_Pool_undo (gVar 1) aNil)) (sExpr (gMeth "Pool" "take" 2 m_Pool_take (gVar 1) (aCons (gCall 2 m_Ldraw (aCons (gVar 0) (aCons (gC (.int 8)) aNil))) aNil))))
noncomputable def sc_y : GS := sTryN (subL errK) (("PermitError", none, (sAsg (gC (.int 0)) (nName 4))) :: []) sc_b
noncomputable def sc_t : GS := sSeq (sAsg (gCall 2 m_Ldraw (aCons (gVar 0) (aCons (gC (.int 6)) aNil))) (nName 4)) sc_y
theorem sc_eq : m_Lsome_calls = runF exitF 5 (sFor (iRange1 (gCall 2 m_Ldraw (aCons (gVar 0) (aCons (gBin oAdd (gVar 2) (gC (.int 1))) aNil)))) (nName 3) (sTrim sc_t)) := rfl
structure Go (q r : Nat) (m0 m : Sto) (B W : Int) (c : Bool) (n : Nat) (s : PSt) (pa : List PSt) : Prop where
  so : So B m
  at_ : AtQ q r m W c s pa
  fr : Fr q r m0 m
  pq : PQ n s pa
section
variable {q r n : Nat} {m m0 m1 m2 : Sto} {W B w most : Int} {c : Bool} {s : PSt} {pa : List PSt} {en : Sl} {go ga ge : GE} {e : Exn}
theorem methS {F : FM} {x : Str} {d : D} {o : Out D} (hg : go en m = .ok (.ref q) m) (hi : IsP q r m W c s) (hx : (flP r W c s).lookup x = none) (ha : ga en m = .ok d m1) (hF : F [.ref q, d] m1 = o) : gMeth "Pool" x 2 F go (aCons ga aNil) en m = o := by
  unfold gMeth
  rw [hg, Out.bind_ok, hi]
  dsimp only
  rw [if_pos ⟨rfl, hx⟩, acons ha anil, Out.bind_ok]
  exact hF
theorem methZ {F : FM} {x : Str} {o : Out D} (hg : go en m = .ok (.ref q) m) (hi : IsP q r m W c s) (hx : (flP r W c s).lookup x = none) (hF : F [.ref q] m = o) : gMeth "Pool" x 1 F go aNil en m = o := by
  unfold gMeth
  rw [hg, Out.bind_ok, hi]
  dsimp only
  rw [if_pos ⟨rfl, hx⟩, anil, Out.bind_ok]
  exact hF
theorem expr_ex (h : ge en m = .ex e m1) : sExpr ge en m = .ex e m1 := by
  unfold sExpr
  rw [h]
  rfl
theorem gcall2 {F : FM} {a b : D} {o : Out D} {g1 g2 : GE} (h1 : g1 en m = .ok a m) (h2 : g2 en m = .ok b m) (hF : F [a, b] m = o) : gCall 2 F (aCons g1 (aCons g2 aNil)) en m = o := by
  unfold gCall
  rw [acons h1 (acons h2 anil), Out.bind_ok]
  exact hF
abbrev scE (q : Nat) (x2 x3 x4 : Option D) : Sl := [some (.ref 2), some (.ref q), x2, x3, x4]
theorem Go.src (g : Go q r m0 m B W c n s pa) (hq : 3 ≤ q) (hr : 3 ≤ r) {B' : Int} (h : SrcR B' (m.drop 3) m1) : Go q r m0 m1 B' W c n s pa := by
  have f : Fr q r m m1 := Fr.ofSrc g.so h
  have f0 : Fr 0 0 m m1 := Fr.ofSrc g.so h
  exact ⟨So.of h, ⟨(f0.same q (by omega) (by omega) (by omega)).trans g.at_.i, (f0.same r (by omega) (by omega) (by omega)).trans g.at_.p, g.at_.ne⟩, g.fr.trans f, g.pq⟩
theorem Go.clo (g : Go q r m0 m B W c n s pa) (h : Clo m0) : Clo m := g.fr.clo h g.so g.at_
theorem Go.up {s' : PSt} {pa' : List PSt} (g : Go q r m0 m B W c n s pa) (hq : 3 ≤ q) (hr : 3 ≤ r) (h : PQ (n + 1) s' pa') : Go q r m0 (upQ q r m W c s' pa') B W c (n + 1) s' pa' := ⟨g.so.up hq hr, g.at_.up, g.fr.trans Fr.up, h⟩
theorem Go.mono {B' : Int} {n' : Nat} (g : Go q r m0 m B W c n s pa) (h : B ≤ B') (hn : n ≤ n') : Go q r m0 m B' W c n' s pa := ⟨g.so.mono h, g.at_, g.fr, g.pq.mono hn⟩
theorem eqI {a b : Int} : eqvD (.int a) (.int b) = (a == b) := by
  unfold eqvD pd
  rfl
theorem subW : subL errK "Waiting" "PermitError" = some true := by decide +kernel
theorem subN : subL errK "NoThread" "PermitError" = some true := by decide +kernel
theorem subU : subL errK "Unsafe" "PermitError" = some true := by decide +kernel
theorem act_ok (g : Go q r m0 m B W c n s pa) (hc : Clo m0) (hq : 3 ≤ q) (hr : 3 ≤ r) (hB : B ≤ 2 ^ 54) (hn : n < 99) {x2 x3 : Option D} :
    ∃ s' pa' m1, Go q r m0 m1 (B + 20) W c (n + 1) s' pa' ∧ (sc_b (scE q x2 x3 (some (.int w))) m = .nx (scE q x2 x3 (some (.int w))) m1 ∨ ∃ e m2, sc_b (scE q x2 x3 (some (.int w))) m = .ex e m2 ∧ subL errK e.c "PermitError" = some true ∧ m2.take m.length = m1) := by
  have hi := g.at_.isP
  have P := g.pq.p
  have v0 : gVar 0 (scE q x2 x3 (some (.int w))) m = .ok (.ref 2) m := rfl
  have v1 : ∀ m, gVar 1 (scE q x2 x3 (some (.int w))) m = .ok (.ref q) m := fun _ => rfl
  have hpal := g.pq.len
  have tk : m.take m.length = m := List.take_length
  by_cases h1 : w < 2
  · have t1 : gAs (gBin oLt (gVar 4) (gC (.int 2))) (scE q x2 x3 (some (.int w))) m = .ok true m := by
      rw [← decide_eq_true h1]; rfl
    obtain ⟨d, m', e1, hs, ns, rfl, hp⟩ := (ok_plan (most := 6) g.so (g.so.cl (g.clo hc)) (by omega) (by decide) (by decide)).ex
    have g' := g.src hq hr hs
    have hb := ok_begin g'.at_ hp P.l100 (by omega)
    refine ⟨_, _, _, g'.up hq hr (g.pq.begin hp (by omega)), .inl ?_⟩
    unfold sc_b
    rw [if_yes t1]
    exact expr_nx (methS (v1 m) hi rfl (gcall2 v0 rfl e1) hb)
  · have t1 : gAs (gBin oLt (gVar 4) (gC (.int 2))) (scE q x2 x3 (some (.int w))) m = .ok false m := by
      rw [← decide_eq_false h1]; rfl
    by_cases h2 : w = 2
    · have t2 : gAs (gBin (oEq false) (gVar 4) (gC (.int 2))) (scE q x2 x3 (some (.int w))) m = .ok true m := by
        have := oEqOk (m := m) (a := .int w) (b := .int 2) dpI dpI rfl rfl
        unfold gAs
        rw [binOk (rfl : gVar 4 (scE q x2 x3 (some (.int w))) m = .ok (.int w) m) gC_eq, this, eqI, h2]
        rfl
      have hsc : sc_b (scE q x2 x3 (some (.int w))) m = sExpr (gMeth "Pool" "undo" 1 m_Pool_undo (gVar 1) aNil) (scE q x2 x3 (some (.int w))) m := by
        unfold sc_b
        rw [if_no t1, if_yes t2]
      rcases List.eq_nil_or_concat pa with e | ⟨pa0, s0, e⟩
      · subst e
        exact ⟨s, [], m, g.mono (by omega) (by omega), .inr ⟨⟨"NothingToUndo", [], []⟩, m, hsc.trans (expr_ex (methZ (v1 m) hi rfl (ok_undoN g.at_))), by decide +kernel, tk⟩⟩
      · rw [List.concat_eq_append] at e
        subst e
        refine ⟨s0, pa0, _, (g.mono (B' := B + 20) (n' := n) (by omega) (by omega)).up hq hr (g.pq.pop.mono (by omega)), .inl ?_⟩
        exact hsc.trans (expr_nx (methZ (v1 m) hi rfl (ok_undoQ g.at_)))
    · have t2 : gAs (gBin (oEq false) (gVar 4) (gC (.int 2))) (scE q x2 x3 (some (.int w))) m = .ok false m := by
        have := oEqOk (m := m) (a := .int w) (b := .int 2) dpI dpI rfl rfl
        have hne : (w == 2) = false := by simp [h2]
        unfold gAs
        rw [binOk (rfl : gVar 4 (scE q x2 x3 (some (.int w))) m = .ok (.int w) m) gC_eq, this, eqI, hne]
        rfl
      have hsc : sc_b (scE q x2 x3 (some (.int w))) m = sExpr (gMeth "Pool" "take" 2 m_Pool_take (gVar 1) (aCons (gCall 2 m_Ldraw (aCons (gVar 0) (aCons (gC (.int 8)) aNil))) aNil)) (scE q x2 x3 (some (.int w))) m := by
        unfold sc_b
        rw [if_no t1, if_no t2]
      obtain ⟨d, m', e1, v, rfl, u0, u1, hs⟩ := (ok_draw (lim := 8) g.so (by omega) (by omega) (by omega)).ex
      have g' := (g.src hq hr hs).mono (B' := B + 20) (n' := n) (by omega) (Nat.le_refl _)
      have hl : m'.length = m.length := (Fr.ofSrc (q := 0) (r := 0) g.so hs).len
      have hi' := g'.at_.isP
      have hm : ∀ {o : Out D}, m_Pool_take [.ref q, .int v] m' = o → gMeth "Pool" "take" 2 m_Pool_take (gVar 1) (aCons (gCall 2 m_Ldraw (aCons (gVar 0) (aCons (gC (.int 8)) aNil))) aNil) (scE q x2 x3 (some (.int w))) m = o := fun h => methS (v1 m) hi rfl (gcall2 v0 rfl e1) h
      cases hw : waitsT (W - heldT s.2) v s.2 with
      | true =>
        obtain ⟨ds, ht⟩ := takenW (num := v) hi' P hw
        refine ⟨s, pa, m', g'.mono (by omega) (by omega), .inr ⟨_, _, hsc.trans (expr_ex (hm (takeEx hi' ht))), subW, ?_⟩⟩
        rw [← hl, List.take_left]
      | false =>
        cases hth : thereT v s.2 with
        | false =>
          obtain ⟨ds, ht⟩ := takenN (num := v) hi' P hw hth
          refine ⟨s, pa, m', g'.mono (by omega) (by omega), .inr ⟨_, _, hsc.trans (expr_ex (hm (takeEx hi' ht))), subN, ?_⟩⟩
          rw [← hl, List.take_left]
        | true =>
          have hz := zL_is (P.beh (num := v)) (W - heldT (behT v s.2))
          have ht := takeOk g'.at_ P (by omega) (g'.clo hc) hw hth hz
          by_cases hb : (c && !(zL (W - heldT (behT v s.2)) (behT v s.2)).isEmpty) = true
          · rw [if_pos hb] at ht
            refine ⟨s, pa, m', g'.mono (by omega) (by omega), .inr ⟨_, _, hsc.trans (expr_ex (hm ht)), subU, ?_⟩⟩
            rw [← hl]; exact List.take_length
          · rw [if_neg hb] at ht
            exact ⟨_, _, _, g'.up hq hr g.pq.take, .inl (hsc.trans (expr_nx (hm ht)))⟩
theorem keepI {k : Nat} {i : Int} : keepB k (some (.int i)) = some (.int i) := by
  have h : D.bel k (.int i) = true := by unfold D.bel; rfl
  show (if D.bel k (.int i) = true then some (D.int i) else none) = _
  rw [if_pos h]
theorem try_ok (g : Go q r m0 m B W c n s pa) (hc : Clo m0) (hq : 3 ≤ q) (hr : 3 ≤ r) (hB : B ≤ 2 ^ 54) (hn : n < 99) {x2 x3 : Option D} :
    ∃ s' pa' m1 w' m2, Go q r m0 m1 (B + 20) W c (n + 1) s' pa' ∧ sc_y (scE q x2 x3 (some (.int w))) m = .nx (scE q x2 x3 (some (.int w'))) m2 ∧ m2.take m.length = m1 := by
  obtain ⟨s', pa', m1, g', h⟩ := act_ok (w := w) g hc hq hr hB hn (x2 := x2) (x3 := x3)
  rcases h with h | ⟨e, m2, h, hs, ht⟩
  · refine ⟨s', pa', m1, w, m1, g', ?_, ?_⟩
    · unfold sc_y sTryN
      rw [h]
    · have : m1.length = m.length := by rw [g'.fr.len, g.fr.len]
      rw [← this]; exact List.take_length
  · refine ⟨s', pa', m1, 0, m2, g', ?_, ht⟩
    have hke : e.c ≠ "KeyError" := fun q => by
      rw [q] at hs
      exact absurd hs (by decide +kernel)
    unfold sc_y sTryN
    rw [h]
    refine (if_neg hke).trans ?_
    show hTryN (subL errK) [("PermitError", none, sAsg (gC (.int 0)) (nName 4))] e (scE q x2 x3 (some (.int w))) m2 = _
    unfold hTryN
    rw [hs]
    rfl
theorem turn_sc (g : Go q r m0 m B W c n s pa) (hc : Clo m0) (hq : 3 ≤ q) (hr : 3 ≤ r) (hB : B ≤ 2 ^ 53) (hn : n < 99) {i3 : Int} {x4 : Option D} :
    ∃ s' pa' m1 x4', Go q r m0 m1 (B + 25) W c (n + 1) s' pa' ∧ sTrim sc_t (scE q (some (.int most)) (some (.int i3)) x4) m = .nx (scE q (some (.int most)) (some (.int i3)) x4') m1 := by
  obtain ⟨d, m', e1, v, rfl, u0, u1, hs⟩ := (ok_draw (lim := 6) g.so (by omega) (by omega) (by omega)).ex
  have g' := g.src hq hr hs
  have hl : m'.length = m.length := (Fr.ofSrc (q := 0) (r := 0) g.so hs).len
  obtain ⟨s', pa', m1, w', m2, g2, h2, ht⟩ := try_ok (w := v) g' hc hq hr (by omega) hn (x2 := some (.int most)) (x3 := some (.int i3))
  refine ⟨s', pa', m1, some (.int w'), g2.mono (by omega) (Nat.le_refl _), ?_⟩
  have hb : sc_t (scE q (some (.int most)) (some (.int i3)) x4) m = .nx (scE q (some (.int most)) (some (.int i3)) (some (.int w'))) m2 := by
    unfold sc_t
    rw [seq_nx (asg_nx (i := 4) (gcall2 (rfl : gVar 0 (scE q (some (.int most)) (some (.int i3)) x4) m = .ok (.ref 2) m) rfl e1))]
    exact h2
  rw [hl] at ht
  have hc1 := g2.clo hc
  have hl1 : m1.length = m.length := by rw [g2.fr.len, g.fr.len]
  unfold Clo at hc1
  rw [hl1] at hc1
  unfold sTrim
  rw [hb]
  dsimp only
  rw [ht, if_pos hc1]
  have hq1 := g.at_.lq
  have k0 : keepB m.length (some (.ref 2)) = some (.ref 2) := keep_ref (by omega)
  have kq : keepB m.length (some (.ref q)) = some (.ref q) := keep_ref hq1
  simp only [scE, List.map_cons, List.map_nil, k0, kq, keepI]
theorem calls_ok {K : Nat} (hK : K ≤ 15) (hso : So B m) (hat : AtQ q r m W c s pa) (hpq : PQ n s pa) (hc : Clo m) (hq : 3 ≤ q) (hr : 3 ≤ r) (hB : B ≤ 2 ^ 52) (h0 : 0 ≤ most) (h1 : most ≤ K) (hn : n + K < 99) :
    (m_Lsome_calls [.ref 2, .ref q, .int most] m).sat fun d m' => d = .non ∧ ∃ s' pa', Go q r m m' (B + 400) W c (n + K) s' pa' := by
  have g : Go q r m m B W c n s pa := ⟨hso, hat, Fr.refl, hpq⟩
  rw [sc_eq, runF_sat]
  obtain ⟨d, m', e1, v, rfl, u0, u1, hs⟩ := (ok_draw (lim := most + 1) hso (by omega) (by omega) (by omega)).ex
  have g' := g.src hq hr hs
  generalize hE : startE 5 [D.ref 2, .ref q, .int most] = E0
  have eE : E0 = scE q (some (.int most)) none none := by rw [← hE]; rfl
  subst eE
  have hd : gCall 2 m_Ldraw (aCons (gVar 0) (aCons (gBin oAdd (gVar 2) (gC (.int 1))) aNil)) (scE q (some (.int most)) none none) m = .ok (.int v) m' := gcall2 rfl rfl e1
  refine for_sat (fun src i en m' => src.lives = [] ∧ src.items.length ≤ K ∧ (∀ d ∈ src.items, ∃ j, d = D.int j) ∧ i ≤ src.items.length ∧ (∃ x3 x4 : Option D, en = scE q (some (.int most)) x3 x4) ∧ ∃ s pa, Go q r m m' (B + 1 + 25 * i) W c (n + i) s pa)
    (Out.sat.mono (P := fun src m1 => ∃ k : Nat, src = ⟨rng 0 k, []⟩ ∧ k ≤ K ∧ m1 = m') ?hi fun src m1 ⟨k, e, hk, em⟩ => ⟨?_, ⟨by rw [e], by rw [e]; show (rng 0 k).length ≤ K; rw [rng_length]; exact hk, fun d hd => ?_, Nat.zero_le _, ⟨none, none, rfl⟩, s, pa, by rw [em]; exact g'.mono (by omega) (by omega)⟩, ?_, ?_⟩)
  case hi =>
    refine iRange1_sat ?_
    rw [hd, sat_ok]
    exact ⟨_, rfl, by omega, by omega, _, rfl, by omega, rfl⟩
  · rintro i en m ⟨e, _⟩
    exact Src.ok_of fun p hp => by rw [e] at hp; cases hp
  · rw [e] at hd
    obtain ⟨i, hi⟩ := List.getElem?_of_mem hd
    exact ⟨_, (rng_get hi).2⟩
  · rintro i d en m2 hd ⟨e1, e2, e3, _, ⟨x3, x4, rfl⟩, s, pa, gg⟩
    have hi := (List.getElem?_eq_some_iff.mp hd).1
    obtain ⟨j, rfl⟩ := e3 d (List.mem_of_getElem? hd)
    rw [show nName 3 (D.int j) (scE q (some (.int most)) x3 x4) m2 = .ok (scE q (some (.int most)) (some (.int j)) x4) m2 from rfl, sat_ok]
    obtain ⟨s', pa', m3, x4', g3, e⟩ := turn_sc (most := most) gg hc hq hr (by omega) (by omega) (i3 := j) (x4 := x4)
    rw [e, sat_nx]
    exact ⟨e1, e2, e3, hi, ⟨_, _, rfl⟩, s', pa', g3.mono (by omega) (by omega)⟩
  · rintro en m2 ⟨_, e2, _, hle, ⟨x3, x4, rfl⟩, s, pa, gg⟩
    have hl : m2.length = m.length := gg.fr.len
    first
      | (rw [exitF_len hl, sat_ok]; exact ⟨rfl, s, pa, gg.mono (by omega) (by omega)⟩)
      | exact ⟨rfl, s, pa, gg.mono (by omega) (by omega)⟩
end
end Wk
namespace Wk
open PySem PySem.Spec L2 L3
open PyProof.Rows hiding St
def unT (W : Int) (t : PSt) : D := .tup [thsD t.2, .int (W - heldT t.2)]
noncomputable def firT (W : Int) (s : PSt) (k : Nat) : D := .tup [thsD s.2, .int (W - heldT s.2), .int (k : Nat), tupD (zL (W - heldT s.2) s.2), .int (s.2.length : Nat)]
noncomputable def seenV (W : Int) (s : PSt) (pa : List PSt) : D := .lst (firT W s pa.length :: pa.reverse.map (unT W))
abbrev seQ (m : Sto) (W : Int) (c : Bool) (s : PSt) (pa : List PSt) (acc : List D) : Sto := m ++ [.ins "Pool" (flP (m.length + 2) W c s), .lst [], .lst (pa.map stP), .lst acc]
section
variable {q r k : Nat} {m : Sto} {W : Int} {c : Bool} {s s' : PSt} {pa pa' : List PSt} {acc acc' : List D} {x y z u w : MO}
theorem at4_0 : (m ++ [x, y, z, u])[m.length]? = some x := by rw [List.getElem?_append_right (Nat.le_refl _), Nat.sub_self]; rfl
theorem at4_2 : (m ++ [x, y, z, u])[m.length + 2]? = some z := by rw [List.getElem?_append_right (by omega), Nat.add_sub_cancel_left]; rfl
theorem at4_3 : (m ++ [x, y, z, u])[m.length + 3]? = some u := by rw [List.getElem?_append_right (by omega), Nat.add_sub_cancel_left]; rfl
theorem set4_0 : (m ++ [x, y, z, u]).set m.length w = m ++ [w, y, z, u] := by rw [List.set_append_right _ _ (Nat.le_refl _), Nat.sub_self]; rfl
theorem set4_2 : (m ++ [x, y, z, u]).set (m.length + 2) w = m ++ [x, y, w, u] := by rw [List.set_append_right _ _ (by omega), Nat.add_sub_cancel_left]; rfl
theorem set4_3 : (m ++ [x, y, z, u]).set (m.length + 3) w = m ++ [x, y, z, w] := by rw [List.set_append_right _ _ (by omega), Nat.add_sub_cancel_left]; rfl
theorem seQ_at : AtQ m.length (m.length + 2) (seQ m W c s pa acc) W c s pa := ⟨at4_0, at4_2, by omega⟩
theorem seQ_up : upQ m.length (m.length + 2) (seQ m W c s pa acc) W c s' pa' = seQ m W c s' pa' acc := by
  unfold upQ
  rw [set4_0, set4_2]
abbrev seE (q : Nat) (m : Sto) : Sl := [some (.ref q), some (.ref m.length), some (.ref (m.length + 3))]
noncomputable def se_c : GB := gAs (gBin oGt (gMeth "Pool" "steps" 1 m_Pool_steps (gVar 1) aNil) (gC (.int 0)))
noncomputable def se_b : GS := sSeq (sExpr (gMeth "Pool" "undo" 1 m_Pool_undo (gVar 1) aNil))
  (sExpr (gBM "list" mAppend (gVar 2) (aCons (gTup (aCons (gMeth "Pool" "unfinished" 1 m_Pool_unfinished (gVar 1) aNil) (aCons (gNoX (gProp "Pool" m_Pool_free (gVar 1))) aNil))) aNil)))
noncomputable def se_p : GS := sPar 1 2 (aCons (gMeth "Pool" "copy" 1 m_Pool_copy (gVar 0) aNil) (aCons (gLstM (aCons (gTup (aCons (gMeth "Pool" "unfinished" 1 m_Pool_unfinished (gVar 0) aNil) (aCons (gNoX (gProp "Pool" m_Pool_free (gVar 0))) (aCons (gMeth "Pool" "steps" 1 m_Pool_steps (gVar 0) aNil) (aCons (gMeth "Pool" "lost" 1 m_Pool_lost (gVar 0) aNil) (aCons (gNoX (gB (bLenO "Pool" m_Pool_len) (aCons (gVar 0) aNil))) aNil)))))) aNil)) aNil))
theorem se_eq : m_Lseen = runF exitF 3 (sSeq se_p (sSeq (sWhile se_c se_b) (sRet (gVar 2)))) := rfl
theorem tupO {en : Sl} {gs : GA} {ds : List D} (h : gs en m = .ok ds m) (hl : ds.length ≤ 100) : L3.gTup gs en m = .ok (.tup ds) m := by
  unfold L3.gTup
  rw [h, Out.bind_ok, if_pos (by rw [sizeLine_eq]; omega)]
theorem lstM5 {en : Sl} {gs : GA} {ds : List D} (h : gs en m = .ok ds m) (hl : ds.length ≤ 100) : gLstM gs en m = .ok (.ref m.length) (m ++ [.lst ds]) := by
  unfold gLstM
  rw [h, Out.bind_ok, if_pos (by rw [sizeLine_eq]; omega)]
theorem se_test : se_c (seE q m) (seQ m W c s pa acc) = .ok (decide (0 < pa.length)) (seQ m W c s pa acc) := by
  have h := meth0 (x := "steps") (go := gVar 1) (en := seE q m) rfl seQ_at.isP rfl (ok_steps (seQ_at (m := m) (W := W) (c := c) (s := s) (pa := pa) (acc := acc)).isP seQ_at.p)
  unfold se_c gAs
  rw [binOk h gC_eq]
  have e : decide ((0 : Int) < ((pa.length : Nat) : Int)) = decide (0 < pa.length) := decide_eq_decide.mpr (by omega)
  show (Out.ok (D.bl (decide ((0 : Int) < ((pa.length : Nat) : Int)))) _).bind _ = _
  rw [e]
  rfl
theorem se_step (P : POk s') (hl : acc.length ≤ 1000) : se_b (seE q m) (seQ m W c s (pa ++ [s']) acc) = .nx (seE q m) (seQ m W c s' pa (acc ++ [unT W s'])) := by
  have h1 : gMeth "Pool" "undo" 1 m_Pool_undo (gVar 1) aNil (seE q m) (seQ m W c s (pa ++ [s']) acc) = .ok .non (seQ m W c s' pa acc) := by
    refine methZ (go := gVar 1) (en := seE q m) rfl (seQ_at (m := m) (W := W) (c := c) (s := s) (pa := pa ++ [s']) (acc := acc)).isP rfl ?_
    rw [ok_undoQ seQ_at, seQ_up]
  have A := seQ_at (m := m) (W := W) (c := c) (s := s') (pa := pa) (acc := acc)
  have h2 : L3.gTup (aCons (gMeth "Pool" "unfinished" 1 m_Pool_unfinished (gVar 1) aNil) (aCons (gNoX (gProp "Pool" m_Pool_free (gVar 1))) aNil)) (seE q m) (seQ m W c s' pa acc) = .ok (unT W s') (seQ m W c s' pa acc) :=
    tupO (acons (meth0 (x := "unfinished") (go := gVar 1) rfl A.isP rfl (ok_unf A.isP)) (acons (propN (go := gVar 1) rfl A.isP (ok_free A.isP P.ok P.l100)) anil)) (by simp only [List.length_cons, List.length_nil]; omega)
  have h3 : gBM "list" mAppend (gVar 2) (aCons (L3.gTup (aCons (gMeth "Pool" "unfinished" 1 m_Pool_unfinished (gVar 1) aNil) (aCons (gNoX (gProp "Pool" m_Pool_free (gVar 1))) aNil))) aNil) (seE q m) (seQ m W c s' pa acc) = .ok .non (seQ m W c s' pa (acc ++ [unT W s'])) := by
    unfold gBM
    rw [show gVar 2 (seE q m) (seQ m W c s' pa acc) = .ok (.ref (m.length + 3)) (seQ m W c s' pa acc) from rfl, Out.bind_ok, if_pos (tyM_lst at4_3), acons h2 anil, Out.bind_ok, mAppend_lst at4_3 (by rw [sizeLine_eq]; omega), set4_3]
  unfold se_b
  rw [seq_nx (expr_nx h1)]
  exact expr_nx h3
theorem se_loop {pa : List PSt} {s : PSt} {x : D} (hP : ∀ t ∈ pa, POk t) (hl : pa.length ≤ 500) : (sWhile se_c se_b (seE q m) (seQ m W c s pa [x])).sat (fun en m' => en = seE q m ∧ ∃ s', m' = seQ m W c s' [] (x :: pa.reverse.map (unT W))) (fun _ _ => False) (fun _ _ => False) (fun _ _ => False) := by
  refine while_sat (fun k en m' => en = seE q m ∧ ∃ s' pa' ds, k = pa'.length ∧ pa = pa' ++ ds.reverse ∧ m' = seQ m W c s' pa' (x :: ds.map (unT W))) ?_ (k := pa.length) ⟨rfl, s, pa, [], rfl, by simp, rfl⟩
  rintro k en m' ⟨rfl, s', pa', ds, rfl, e, rfl⟩
  rw [se_test, sat_ok]
  rcases List.eq_nil_or_concat pa' with e1 | ⟨pa0, t, e1⟩
  · subst e1
    rw [if_neg (by simp)]
    refine ⟨rfl, s', ?_⟩
    rw [e]
    simp
  · rw [List.concat_eq_append] at e1
    subst e1
    rw [if_pos (by simp)]
    have ht : t ∈ pa := by rw [e]; simp
    have hd : ds.length ≤ 500 := by
      have := congrArg List.length e
      simp only [List.length_append, List.length_reverse] at this
      omega
    rw [se_step (hP t ht) (by rw [List.length_cons, List.length_map]; omega), sat_nx]
    refine ⟨pa0.length, by rw [List.length_append]; simp, rfl, t, pa0, ds ++ [t], rfl, by rw [e]; simp, ?_⟩
    rw [List.map_append]
    rfl
theorem bel_thsD (n : Nat) (l : List Th) : D.bel n (thsD l) = true := by
  unfold thsD D.bel
  exact bels_map fun x _ => bel_th n x
theorem bel_unT (n : Nat) (t : PSt) : D.bel n (unT W t) = true := by
  unfold unT D.bel D.bels D.bels D.bels
  rw [bel_thsD]
  unfold D.bel
  rfl
theorem bel_firT (n k : Nat) : D.bel n (firT W s k) = true := by
  have h1 : D.bel n (tupD (zL (W - heldT s.2) s.2)) = true := by
    unfold tupD D.bel
    exact bels_map fun _ _ => by unfold D.bel; rfl
  unfold firT D.bel D.bels D.bels D.bels D.bels D.bels D.bels
  rw [bel_thsD, h1]
  unfold D.bel
  rfl
theorem allO_bel5 {mm : Sto} {n f : Nat} : ∀ {ds : List D}, D.bels n ds = true → allO (frz mm n (f + 1)) ds = some ds
  | [], _ => by unfold allO; rfl
  | d :: ds, h => by
    unfold D.bels at h
    rw [Bool.and_eq_true] at h
    have e1 : frz mm n (f + 1) d = some d := by unfold frz; rw [if_pos h.1]
    unfold allO
    rw [e1, allO_bel5 h.2]
theorem exit_se (hc : Clo m) (hb : D.bels m.length acc = true) : exitF m.length (.ref (m.length + 3)) (seQ m W c s pa acc) = .ok (.lst acc) m := by
  unfold exitF
  rw [if_neg (by rw [List.length_append]; simp)]
  have et : (seQ m W c s pa acc).take m.length = m := by simp
  rw [et, if_pos hc]
  have r1 : ¬ D.bel m.length (.ref (m.length + 3)) = true := by unfold D.bel; simp
  have e1 : frz (seQ m W c s pa acc) m.length 12 (.ref (m.length + 3)) = some (.lst acc) := by
    unfold frz
    rw [if_neg r1]
    simp only [at4_3]
    rw [allO_bel5 hb]; rfl
  rw [e1]
theorem ok_seenV (h : AtQ q r m W c s pa) (hc : Clo m) (P : POk s) (hP : ∀ t ∈ pa, POk t) (hl : pa.length ≤ 500) (h0 : 0 ≤ W) (h1 : W ≤ 10 ^ 30) : m_Lseen [.ref q] m = .ok (seenV W s pa) m := by
  have hi := h.isP
  have e1 : gMeth "Pool" "copy" 1 m_Pool_copy (gVar 0) aNil [some (D.ref q), none, none] m = .ok (.ref m.length) (cpQ m W c s pa) := methZ rfl hi rfl (ok_copy h h0 h1)
  have hl1 := h.lq
  have hl2 := h.lr
  have A : AtQ q r (cpQ m W c s pa) W c s pa := ⟨by rw [List.getElem?_append_left hl1]; exact h.i, by rw [List.getElem?_append_left hl2]; exact h.p, h.ne⟩
  obtain ⟨z, hz, ez⟩ := ok_lost A.isP P.ok P.nod P.l100
  obtain rfl := hz.same P.ok (zL_is P _)
  have v0 : ∀ mm : Sto, gVar 0 [some (D.ref q), none, none] mm = .ok (.ref q) mm := fun _ => rfl
  have e2 := tupO (acons (meth0 (x := "unfinished") (v0 _) A.isP rfl (ok_unf A.isP)) (acons (propN (v0 _) A.isP (ok_free A.isP P.ok P.l100)) (acons (meth0 (x := "steps") (v0 _) A.isP rfl (ok_steps A.isP A.p)) (acons (meth0 (x := "lost") (v0 _) A.isP rfl ez) (acons (lenN (v0 _) A.isP P.l100) anil))))) (by simp only [List.length_cons, List.length_nil]; omega)
  have e3 : se_p [some (D.ref q), none, none] m = .nx (seE q m) (seQ m W c s pa [firT W s pa.length]) := by
    unfold se_p
    have e5 := lstM5 (acons e2 anil) (by simp only [List.length_cons, List.length_nil]; omega)
    rw [List.length_append, List.append_assoc] at e5
    exact par_nx (i := 1) (j := 2) (en := [some (D.ref q), none, none]) (acons e1 (acons e5 anil))
  rw [se_eq]
  refine eq_of_sat' ?_
  rw [runF_sat]
  rw [show startE 3 [D.ref q] = [some (.ref q), none, none] from rfl, seq_nx e3]
  unfold sSeq
  rw [sat_then]
  refine (se_loop hP hl).mono (fun en m' ⟨e, s', em⟩ => ?_) (fun _ _ z => z.elim) (fun _ _ z => z.elim) (fun _ _ z => z.elim)
  subst e em
  rw [show sRet (gVar 2) (seE q m) (seQ m W c s' [] (firT W s pa.length :: pa.reverse.map (unT W))) = .rt (.ref (m.length + 3)) (seQ m W c s' [] (firT W s pa.length :: pa.reverse.map (unT W))) from rfl, sat_rt]
  rw [exit_se hc (by
    unfold D.bels
    rw [bel_firT]
    exact bels_map fun t _ => bel_unT _ t), sat_ok]
  exact ⟨rfl, rfl⟩
end
end Wk
namespace Wk
open PySem PySem.Spec L2 L3
open PyProof.Rows hiding St
def flT (q : Nat) (s : PSt) (k : Nat) : List (Str × D) := [("pool", .ref q), ("present", stP s), ("past", .ref k)]
section
variable {q r k t : Nat} {m m1 m2 m3 : Sto} {W : Int} {c : Bool} {s s' s3 : PSt} {pa pa' pa3 : List PSt} {x y z u w : MO} {en : Sl} {ge go : GE} {fs : List (Str × D)} {d : D}
theorem setC {cl f : Str} (hg : ge en m1 = .ok d m2) (h0 : go en m2 = .ok (.ref k) m2) (hi : m2[k]? = some (.ins cl fs)) (hl : fs.length < 1000) : sAsg ge (nFld cl f go) en m1 = .nx en (m2.set k (.ins cl (putF3 f d fs))) := by
  have e : nFld cl f go d en m2 = .ok en (m2.set k (.ins cl (putF3 f d fs))) := by
    unfold nFld
    rw [h0]
    simp only [Out.bind_ok]
    have ep : oPutF cl f (.ref k) d m2 = some (m2.set k (.ins cl (putF3 f d fs))) := by
      unfold oPutF
      simp only [hi]
      exact if_pos ⟨by first | trivial | rfl, hl⟩
    rw [ep]
  unfold sAsg
  rw [hg, SO.ofOut_ok, e]
  rfl
theorem fldC {cl f : Str} (hg : go en m = .ok (.ref k) m) (hi : m[k]? = some (.ins cl fs)) (hl : fs.lookup f = some d) : gFld cl f go en m = .ok d m := by
  have e : insOf m (.ref k) = some (cl, fs) := by
    unfold insOf
    simp only [hi]
  unfold gFld
  rw [hg, Out.bind_ok, e]
  dsimp only
  rw [if_pos rfl, hl]
theorem bListRef {ds : List D} (h : m[k]? = some (.lst ds)) : bListM [.ref k] m = .ok (.ref m.length) (m ++ [.lst ds]) := by
  have es : seqOf m (.ref k) = some ds := by
    unfold seqOf lstOf
    simp only [h]
  unfold bListM
  simp only [es]
theorem tr_init (h : AtQ q r m W c s pa) : m_Trial_init [.ref m.length, .ref q] (m ++ [.ins "Trial" []]) = .ok .non (m ++ [.ins "Trial" (flT q s (m.length + 1)), .lst (pa.map stP)]) := by
  have hi : ∀ x : MO, IsP q r (m ++ [x]) W c s := fun x => h.isP.app
  have v0 : ∀ mm : Sto, gVar 0 [some (D.ref m.length), some (.ref q)] mm = .ok (.ref m.length) mm := fun _ => rfl
  have v1 : ∀ mm : Sto, gVar 1 [some (D.ref m.length), some (.ref q)] mm = .ok (.ref q) mm := fun _ => rfl
  have s1 := setC (cl := "Trial") (f := "pool") (fs := []) (ge := gVar 1) (v1 (m ++ [.ins "Trial" []])) (v0 _) at_n1 (show (0 : Nat) < 1000 by decide)
  rw [set_n1] at s1
  have s2 := setC (cl := "Trial") (f := "present") (ge := gFld "Pool" "present" (gVar 1)) (fldQ (v1 _) (hi (.ins "Trial" (putF3 "pool" (.ref q) []))) lkP) (v0 _) at_n1 (show (1 : Nat) < 1000 by decide)
  rw [set_n1] at s2
  have e3 : gB bListM (aCons (gFld "Pool" "past" (gVar 1)) aNil) [some (D.ref m.length), some (.ref q)] (m ++ [.ins "Trial" (putF3 "present" (stP s) (putF3 "pool" (.ref q) []))]) = .ok (.ref (m.length + 1)) (m ++ [.ins "Trial" (putF3 "present" (stP s) (putF3 "pool" (.ref q) [])), .lst (pa.map stP)]) := by
    rw [gb_ok (acons (fldQ (v1 _) (hi _) lkA) anil), bListRef (ds := pa.map stP) (by rw [List.getElem?_append_left h.lr]; exact h.p), List.length_append, List.append_assoc]
    rfl
  have s3 := setC (cl := "Trial") (f := "past") (go := gVar 0) e3 (v0 _) at_n2 (show (2 : Nat) < 1000 by decide)
  rw [set_n2] at s3
  unfold m_Trial_init runF g_Trial_init
  rw [show startE 2 [D.ref m.length, .ref q] = [some (.ref m.length), some (.ref q)] from rfl, seq_nx s1, seq_nx s2, s3]
  rfl
theorem tr_make (h : AtQ q r m W c s pa) (hg : go en m = .ok (.ref q) m) : gMakeM "Trial" 2 m_Trial_init (aCons go aNil) en m = .ok (.ref m.length) (m ++ [.ins "Trial" (flT q s (m.length + 1)), .lst (pa.map stP)]) := by
  have hi := tr_init h
  unfold gMakeM
  rw [acons hg anil]
  generalize m_Trial_init = F at hi ⊢
  show (F [.ref m.length, .ref q] (m ++ [.ins "Trial" []])).bind _ = _
  rw [hi]
  rfl
abbrev trS (m : Sto) (q : Nat) (s : PSt) (pa : List PSt) : Sto := m ++ [.ins "Trial" (flT q s (m.length + 2)), .lst (pa.map stP), .lst (pa.map stP)]
theorem tr_enter (h : AtQ q r m W c s pa) : m_Trial_enter [.ref m.length] (m ++ [.ins "Trial" (flT q s (m.length + 1)), .lst (pa.map stP)]) = .ok (.ref q) (trS m q s pa) := by
  have hi : ∀ x y : MO, IsP q r (m ++ [x, y]) W c s := fun x y => by
    have := (h.isP.app (z := x)).app (z := y)
    rw [List.append_assoc] at this
    exact this
  have v0 : ∀ mm : Sto, gVar 0 [some (D.ref m.length)] mm = .ok (.ref m.length) mm := fun _ => rfl
  have f0 := fldC (cl := "Trial") (f := "pool") (d := .ref q) (v0 _) (at_n2 (m := m) (x := .ins "Trial" (flT q s (m.length + 1))) (y := .lst (pa.map stP))) rfl
  have s1 := setC (cl := "Trial") (f := "present") (ge := gFld "Pool" "present" (gFld "Trial" "pool" (gVar 0))) (fldQ f0 (hi _ _) lkP) (v0 _) at_n2 (show (3 : Nat) < 1000 by decide)
  rw [set_n2, show putF3 "present" (stP s) (flT q s (m.length + 1)) = flT q s (m.length + 1) from rfl] at s1
  have e3 : gB bListM (aCons (gFld "Pool" "past" (gFld "Trial" "pool" (gVar 0))) aNil) [some (D.ref m.length)] (m ++ [.ins "Trial" (flT q s (m.length + 1)), .lst (pa.map stP)]) = .ok (.ref (m.length + 2)) (m ++ [.ins "Trial" (flT q s (m.length + 1)), .lst (pa.map stP), .lst (pa.map stP)]) := by
    rw [gb_ok (acons (fldQ f0 (hi _ _) lkA) anil), bListRef (ds := pa.map stP) (by rw [List.getElem?_append_left h.lr]; exact h.p), List.length_append, List.append_assoc]
    rfl
  have s2 := setC (cl := "Trial") (f := "past") (go := gVar 0) e3 (v0 _) at_n3 (show (3 : Nat) < 1000 by decide)
  rw [set_n3, show putF3 "past" (.ref (m.length + 2)) (flT q s (m.length + 1)) = flT q s (m.length + 2) from rfl] at s2
  have f1 := fldC (cl := "Trial") (f := "pool") (d := .ref q) (v0 _) (at_n3 (m := m) (x := .ins "Trial" (flT q s (m.length + 2))) (y := .lst (pa.map stP)) (u := .lst (pa.map stP))) rfl
  unfold m_Trial_enter runF g_Trial_enter
  rw [show startE 1 [D.ref m.length] = [some (.ref m.length)] from rfl, seq_nx s1, seq_nx s2]
  unfold sRet
  rw [f1]
  rfl
theorem tr_exit (h : AtQ q r m3 W c s3 pa3) (ht : m3[t]? = some (.ins "Trial" (flT q s k))) (ne : t ≠ q) : m_Trial_exit [.ref t] m3 = .ok .non (m3.set q (.ins "Pool" (flP k W c s))) := by
  have v0 : ∀ mm : Sto, gVar 0 [some (D.ref t), none, none, none] mm = .ok (.ref t) mm := fun _ => rfl
  have f0 := fldC (cl := "Trial") (f := "pool") (d := .ref q) (v0 _) ht rfl
  have s1 := setC (cl := "Pool") (f := "present") (ge := gFld "Trial" "present" (gVar 0)) (fldC (cl := "Trial") (f := "present") (d := stP s) (v0 _) ht rfl) f0 h.i (show (4 : Nat) < 1000 by decide)
  rw [show putF3 "present" (stP s) (flP r W c s3) = flP r W c s from rfl] at s1
  have ht2 : (m3.set q (.ins "Pool" (flP r W c s)))[t]? = some (.ins "Trial" (flT q s k)) := by rw [List.getElem?_set_ne ne.symm]; exact ht
  have hq2 : (m3.set q (.ins "Pool" (flP r W c s)))[q]? = some (.ins "Pool" (flP r W c s)) := List.getElem?_set_self h.lq
  have f1 := fldC (cl := "Trial") (f := "pool") (d := .ref q) (v0 _) ht2 rfl
  have s2 := setC (cl := "Pool") (f := "past") (ge := gFld "Trial" "past" (gVar 0)) (fldC (cl := "Trial") (f := "past") (d := .ref k) (v0 _) ht2 rfl) f1 hq2 (show (4 : Nat) < 1000 by decide)
  rw [show putF3 "past" (.ref k) (flP r W c s) = flP k W c s from rfl, List.set_set] at s2
  unfold m_Trial_exit runF g_Trial_exit
  rw [show startE 4 [D.ref t] = [some (.ref t), none, none, none] from rfl, seq_nx s1, s2]
  rfl
theorem tr_in (h : AtQ q r m W c s pa) : insOf (m ++ [.ins "Trial" (flT q s (m.length + 1)), .lst (pa.map stP)]) (.ref m.length) = some ((("Trial" : String) : Str), flT q s (m.length + 1)) := by
  unfold insOf
  simp only [at_n2]
theorem reh_ok {L : D → Sto → Out D} {d : D} (h : AtQ q r m W c s pa) (hL : L (.ref q) (trS m q s pa) = .ok d m3) (h3 : AtQ q k m3 W c s3 pa3) (ht : m3[m.length]? = some (.ins "Trial" (flT q s (m.length + 2)))) :
    m_rehearsed L (.ref q) m = .ok d (m3.set q (.ins "Pool" (flP (m.length + 2) W c s))) := by
  have hx := tr_exit h3 ht (by have := h.lq; omega)
  unfold m_rehearsed rehM
  rw [tr_make (en := [some (D.ref q), none, some .non, none]) h rfl]
  dsimp only
  rw [tr_in h]
  dsimp only
  rw [if_pos rfl, tr_enter h]
  dsimp only
  rw [hL]
  dsimp only
  rw [hx]
theorem reh_ex {L : D → Sto → Out D} {e : Exn} (h : AtQ q r m W c s pa) (hL : L (.ref q) (trS m q s pa) = .ex e m3) (h3 : AtQ q k m3 W c s3 pa3) (ht : m3[m.length]? = some (.ins "Trial" (flT q s (m.length + 2)))) :
    m_rehearsed L (.ref q) m = .ex e (m3.set q (.ins "Pool" (flP (m.length + 2) W c s))) := by
  have hx := tr_exit h3 ht (by have := h.lq; omega)
  unfold m_rehearsed rehM
  rw [tr_make (en := [some (D.ref q), none, some .non, none]) h rfl]
  dsimp only
  rw [tr_in h]
  dsimp only
  rw [if_pos rfl, tr_enter h]
  dsimp only
  rw [hL]
  dsimp only
  rw [hx]
end
structure Good (q r : Nat) (m : Sto) (B W : Int) (c : Bool) (n : Nat) (s : PSt) (pa : List PSt) : Prop where
  so : So B m
  at_ : AtQ q r m W c s pa
  clo : Clo m
  pq : PQ n s pa
  q3 : 3 ≤ q
  r3 : 3 ≤ r
structure Gr (q r : Nat) (m m' : Sto) : Prop where
  le : m.length ≤ m'.length
  same : ∀ k, k < m.length → k ≠ 2 → k ≠ q → k ≠ r → m'[k]? = m[k]?
section
variable {q r r3 k : Nat} {m m1 m2 m3 : Sto} {B B' W : Int} {c : Bool} {n n' : Nat} {s s3 : PSt} {pa pa3 : List PSt}
theorem Gr.refl : Gr q r m m := ⟨Nat.le_refl _, fun _ _ _ _ _ => rfl⟩
theorem Gr.ofFr (f : Fr q r m m1) : Gr q r m m1 := ⟨Nat.le_of_eq f.len.symm, fun k _ h0 h1 h2 => f.same k h0 h1 h2⟩
theorem Good.mono (g : Good q r m B W c n s pa) (hB : B ≤ B') (hn : n ≤ n') : Good q r m B' W c n' s pa := ⟨g.so.mono hB, g.at_, g.clo, g.pq.mono hn, g.q3, g.r3⟩
theorem Good.src (g : Good q r m B W c n s pa) (h : SrcR B' (m.drop 3) m1) : Good q r m1 B' W c n s pa ∧ Fr q r m m1 := by
  have f0 : Fr 0 0 m m1 := Fr.ofSrc g.so h
  have f : Fr q r m m1 := Fr.ofSrc g.so h
  have h3 := g.q3
  have h4 := g.r3
  have a : AtQ q r m1 W c s pa := ⟨(f0.same q (by omega) (by omega) (by omega)).trans g.at_.i, (f0.same r (by omega) (by omega) (by omega)).trans g.at_.p, g.at_.ne⟩
  exact ⟨⟨So.of h, a, f.clo g.clo (So.of h) a, g.pq, h3, h4⟩, f⟩
theorem clo_app {l : Sto} (h : Clo m) (hl : ∀ x ∈ l, MO.bel (m.length + l.length) x = true) : Clo (m ++ l) := by
  unfold Clo at h ⊢
  rw [List.length_append, List.all_append, Bool.and_eq_true]
  exact ⟨all_belMono (Nat.le_add_right _ _) h, List.all_eq_true.mpr hl⟩
theorem bel_trial {n : Nat} (hq : q < n) (hk : k < n) : MO.bel n (.ins "Trial" (flT q s k)) = true := by
  show D.bels n [.ref q, stP s, .ref k] = true
  have hs : D.bel n (stP s) = true := by
    unfold stP D.bel D.bels D.bels D.bels
    have h1 : D.bel n (.int s.1) = true := by unfold D.bel; rfl
    have h2 : D.bel n (.tup (s.2.map thD)) = true := by unfold D.bel; exact bels_map fun x _ => bel_th n x
    rw [h1, h2]; rfl
  have h3 : ∀ j, j < n → D.bel n (.ref j) = true := fun j hj => by unfold D.bel; exact decide_eq_true hj
  unfold D.bels D.bels D.bels D.bels
  rw [h3 q hq, h3 k hk, hs]; rfl
theorem Good.tr (g : Good q r m B W c n s pa) : Good q r (trS m q s pa) B W c n s pa := by
  have h3 := g.so.l3
  have hq := g.at_.lq
  have hr := g.at_.lr
  have ap : ∀ k, k < m.length → (trS m q s pa)[k]? = m[k]? := fun k hk => List.getElem?_append_left hk
  refine ⟨g.so.same (ap 0 (by omega)) (ap 1 (by omega)) (ap 2 (by omega)), ⟨(ap q hq).trans g.at_.i, (ap r hr).trans g.at_.p, g.at_.ne⟩, clo_app g.clo fun x hx => ?_, g.pq, g.q3, g.r3⟩
  simp only [List.mem_cons, List.not_mem_nil, or_false] at hx
  rcases hx with rfl | rfl | rfl
  · exact bel_trial (by simp only [List.length_cons, List.length_nil]; omega) (by simp only [List.length_cons, List.length_nil]; omega)
  · exact bel_past
  · exact bel_past
theorem Good.back (g : Good q r m B W c n s pa) (g3 : Good q r3 m3 B' W c n' s3 pa3) (f : Gr q r (trS m q s pa) m3) :
    Good q (m.length + 2) (m3.set q (.ins "Pool" (flP (m.length + 2) W c s))) B' W c n s pa ∧ Gr q r m (m3.set q (.ins "Pool" (flP (m.length + 2) W c s))) ∧ m3[m.length]? = some (.ins "Trial" (flT q s (m.length + 2))) := by
  have h3 := g.so.l3
  have hq := g.at_.lq
  have hr := g.at_.lr
  have q3 := g.q3
  have hlen : (trS m q s pa).length = m.length + 3 := by rw [List.length_append]; rfl
  have le := f.le
  rw [hlen] at le
  have ap : ∀ k, k < m.length → (trS m q s pa)[k]? = m[k]? := fun k hk => List.getElem?_append_left hk
  have e0 : m3[m.length]? = some (.ins "Trial" (flT q s (m.length + 2))) := (f.same m.length (by omega) (by omega) (by omega) (by omega)).trans at_n3
  have e2 : m3[m.length + 2]? = some (.lst (pa.map stP)) := (f.same (m.length + 2) (by omega) (by omega) (by omega) (by omega)).trans (by rw [List.getElem?_append_right (by omega), Nat.add_sub_cancel_left]; rfl)
  refine ⟨⟨g3.so.same ?_ ?_ ?_, ⟨List.getElem?_set_self (by omega), by rw [List.getElem?_set_ne (by omega)]; exact e2, by omega⟩, ?_, g.pq, q3, by omega⟩, ⟨by rw [List.length_set]; omega, fun k hk k0 k1 k2 => ?_⟩, e0⟩
  · exact List.getElem?_set_ne (by omega)
  · exact List.getElem?_set_ne (by omega)
  · exact List.getElem?_set_ne (by omega)
  · have hc := g3.clo
    unfold Clo at hc ⊢
    rw [List.length_set, List.all_eq_true]
    rw [List.all_eq_true] at hc
    intro x hx
    rcases List.mem_or_eq_of_mem_set hx with z | z
    · exact hc x z
    · rw [z]; exact bel_pool (by omega)
  · rw [List.getElem?_set_ne k1.symm, f.same k (by omega) k0 k1 k2]
    exact ap k hk
end
end Wk
namespace Wk
open PySem PySem.Spec L2 L3
open PyProof.Rows hiding St
section
variable {q r r1 r3 k d : Nat} {m m1 m2 m3 : Sto} {B B' W most : Int} {c : Bool} {n n' : Nat} {s s3 : PSt} {pa pa3 : List PSt} {en : Sl} {F : FM}
theorem Gr.trans (a : Gr q r m m1) (b : Gr q r m1 m2) : Gr q r m m2 := ⟨Nat.le_trans a.le b.le, fun k hk h0 h1 h2 => (b.same k (Nat.lt_of_lt_of_le hk a.le) h0 h1 h2).trans (a.same k hk h0 h1 h2)⟩
theorem ok_calls {K : Nat} (hK : K ≤ 15) (g : Good q r m B W c n s pa) (hB : B ≤ 2 ^ 52) (h0 : 0 ≤ most) (h1 : most ≤ K) (hn : n + K < 99) : ∃ m' s' pa', m_Lsome_calls [.ref 2, .ref q, .int most] m = .ok .non m' ∧ Good q r m' (B + 400) W c (n + K) s' pa' ∧ Gr q r m m' := by
  obtain ⟨d, m', e, rfl, s', pa', g'⟩ := (calls_ok hK g.so g.at_ g.pq g.clo g.q3 g.r3 hB h0 h1 hn).ex
  exact ⟨m', s', pa', e, ⟨g'.so, g'.at_, g'.clo g.clo, g'.pq, g.q3, g.r3⟩, Gr.ofFr g'.fr⟩
theorem gcall3 {a b e : D} {o : Out D} {g1 g2 g3 : GE} (h1 : g1 en m = .ok a m) (h2 : g2 en m = .ok b m) (h3 : g3 en m = .ok e m) (hF : F [a, b, e] m = o) : gCall 3 F (aCons g1 (aCons g2 (aCons g3 aNil))) en m = o := by
  unfold gCall
  rw [acons h1 (acons h2 (acons h3 anil)), Out.bind_ok]
  exact hF
theorem gcall1 {a : D} {o : Out D} {g1 : GE} (h1 : g1 en m = .ok a m) (hF : F [a] m = o) : gCall 1 F (aCons g1 aNil) en m = o := by
  unfold gCall
  rw [acons h1 anil, Out.bind_ok]
  exact hF
theorem neSame {a : D} (h : D.dp 60 a = true) (hv : viewL m a = a) (hx : oNeX a a m = oEq true a a m) : oNeX a a m = .ok (.bl false) m := by
  rw [hx]
  unfold oEq
  rw [hv, if_pos ⟨h, h⟩, eqv_pd]
  rfl
theorem eqSame {a : D} (h : D.dp 60 a = true) (hv : viewL m a = a) : oEq false a a m = .ok (.bl true) m := by
  unfold oEq
  rw [hv, if_pos ⟨h, h⟩, eqv_pd]
  rfl
theorem neThs5 {l : List Th} : oNeX (thsD l) (thsD l) m = .ok (.bl false) m := by
  cases l with
  | nil => rfl
  | cons x l => exact neSame (dpThs (n := 57)) rfl rfl
noncomputable def ac_1 : GS := (sIf (bOr (gAs (gBin oNeX (gMeth "Pool" "steps" 1 m_Pool_steps (gVar 2) aNil) (gMeth "Pool" "steps" 1 m_Pool_steps (gVar 1) aNil))) (gAs (gBin oNeX (gMeth "Pool" "unfinished" 1 m_Pool_unfinished (gVar 2) aNil) (gMeth "Pool" "unfinished" 1 m_Pool_unfinished (gVar 1) aNil))))
  (sRet (gC (.str "other")))
  sNext)
noncomputable def ac_2 : GS := (sExpr (gCall 3 m_Lsome_calls (aCons (gVar 0) (aCons (gVar 2) (aCons (gC (.int 15)) aNil)))))
noncomputable def ac_3 (R : FM) : GS := (sIf (bAnd (gAs (gBin oGt (gVar 3) (gC (.int 0)))) (bNot (gTru (gCall 3 R (aCons (gVar 0) (aCons (gVar 2) (aCons (gBin oSub (gVar 3) (gC (.int 1))) aNil)))))))
  (sRet (gC (.str "inner")))
  sNext)
noncomputable def ac_4 : GS := (sAsg (gCall 2 m_Ldraw (aCons (gVar 0) (aCons (gC (.int 5)) aNil))) (nName 4))
noncomputable def ac_5 : GS := (sIf (gAs (gBin (oEq false) (gVar 4) (gC (.int 0))))
  sRaiseK
  sNext)
noncomputable def ac_6 : GS := (sIf (gAs (gBin (oEq false) (gVar 4) (gC (.int 1))))
  (sRaise0 "NothingToUndo")
  sNext)
noncomputable def ac_7 : GS := (sRet (gTup (aCons (gC (.str "told")) (aCons (gMeth "Pool" "steps" 1 m_Pool_steps (gVar 2) aNil) aNil))))
theorem ac_eq {R : FM} : g_Laction R = sSeq ac_1 (sSeq ac_2 (sSeq (ac_3 R) (sSeq ac_4 (sSeq ac_5 (sSeq ac_6 ac_7))))) := rfl
abbrev acE (q d : Nat) (x : Option D) : Sl := [some (.ref 2), some (.ref q), some (.ref q), some (.int (d : Nat)), x]
theorem ac1_ok (g : Good q r m B W c n s pa) {x : Option D} : ac_1 (acE q d x) m = .nx (acE q d x) m := by
  have hi := g.at_.isP
  have e1 : ∀ i : Nat, gVar i (acE q d x) m = .ok (.ref q) m → gMeth "Pool" "steps" 1 m_Pool_steps (gVar i) aNil (acE q d x) m = .ok (.int (pa.length : Nat)) m := fun i h => meth0 (x := "steps") h hi rfl (ok_steps hi g.at_.p)
  have e2 : ∀ i : Nat, gVar i (acE q d x) m = .ok (.ref q) m → gMeth "Pool" "unfinished" 1 m_Pool_unfinished (gVar i) aNil (acE q d x) m = .ok (thsD s.2) m := fun i h => meth0 (x := "unfinished") h hi rfl (ok_unf hi)
  have t1 : gAs (gBin oNeX (gMeth "Pool" "steps" 1 m_Pool_steps (gVar 2) aNil) (gMeth "Pool" "steps" 1 m_Pool_steps (gVar 1) aNil)) (acE q d x) m = .ok false m := by
    unfold gAs
    rw [binOk (e1 2 rfl) (e1 1 rfl), neSame dpI rfl rfl]
    rfl
  have t2 : gAs (gBin oNeX (gMeth "Pool" "unfinished" 1 m_Pool_unfinished (gVar 2) aNil) (gMeth "Pool" "unfinished" 1 m_Pool_unfinished (gVar 1) aNil)) (acE q d x) m = .ok false m := by
    unfold gAs
    rw [binOk (e2 2 rfl) (e2 1 rfl), neThs5]
    rfl
  have t3 : bOr (gAs (gBin oNeX (gMeth "Pool" "steps" 1 m_Pool_steps (gVar 2) aNil) (gMeth "Pool" "steps" 1 m_Pool_steps (gVar 1) aNil))) (gAs (gBin oNeX (gMeth "Pool" "unfinished" 1 m_Pool_unfinished (gVar 2) aNil) (gMeth "Pool" "unfinished" 1 m_Pool_unfinished (gVar 1) aNil))) (acE q d x) m = .ok false m := by
    unfold bOr
    rw [t1, Out.bind_ok]
    exact t2
  unfold ac_1
  rw [if_no t3]
  rfl
def InnerOk (R : FM) (q d : Nat) (W : Int) (c : Bool) : Prop := ∀ (r : Nat) (m : Sto) (B : Int) (n : Nat) (s : PSt) (pa : List PSt), Good q r m B W c n s pa → B + 2000 * (d + 1) ≤ 2 ^ 40 → n + 15 * (d + 1) < 99 →
  ∃ m' r', R [.ref 2, .ref q, .int (d : Nat)] m = .ok (.bl true) m' ∧ Good q r' m' (B + 1000 * (d + 1)) W c n s pa ∧ Gr q r m m'
theorem ac3_ok {R : FM} (g : Good q r m B W c n s pa) (hB : B + 2000 * d ≤ 2 ^ 40) (hn : n + 15 * d < 99) (hR : ∀ e, d = e + 1 → InnerOk R q e W c) {x : Option D} :
    ∃ m' r', ac_3 R (acE q d x) m = .nx (acE q d x) m' ∧ Good q r' m' (B + 1000 * d) W c n s pa ∧ Gr q r m m' := by
  cases d with
  | zero =>
    refine ⟨m, r, ?_, g.mono (by omega) (Nat.le_refl _), Gr.refl⟩
    have t1 : gAs (gBin oGt (gVar 3) (gC (.int 0))) (acE q 0 x) m = .ok false m := rfl
    unfold ac_3
    rw [if_no (show bAnd _ _ (acE q 0 x) m = .ok false m from by
      unfold bAnd
      rw [t1, Out.bind_ok]
      rfl)]
    rfl
  | succ e =>
    obtain ⟨m', r', e1, g', f'⟩ := hR e rfl r m B n s pa g (by omega) hn
    refine ⟨m', r', ?_, g'.mono (by omega) (Nat.le_refl _), f'⟩
    have t1 : gAs (gBin oGt (gVar 3) (gC (.int 0))) (acE q (e + 1) x) m = .ok true m := by
      have : decide ((0 : Int) < ((e + 1 : Nat) : Int)) = true := decide_eq_true (by omega)
      show (Out.ok (D.bl (decide ((0 : Int) < ((e + 1 : Nat) : Int)))) m).bind _ = _
      rw [this]; rfl
    have t2 : gCall 3 R (aCons (gVar 0) (aCons (gVar 2) (aCons (gBin oSub (gVar 3) (gC (.int 1))) aNil))) (acE q (e + 1) x) m = .ok (.bl true) m' := by
      refine gcall3 (a := .ref 2) (b := .ref q) (e := .int (e : Nat)) rfl rfl ?_ e1
      show Out.ok (D.int (((e + 1 : Nat) : Int) - 1)) m = _
      rw [show (((e + 1 : Nat) : Int) - 1) = (e : Nat) from by omega]
    have t3 : bNot (gTru (gCall 3 R (aCons (gVar 0) (aCons (gVar 2) (aCons (gBin oSub (gVar 3) (gC (.int 1))) aNil))))) (acE q (e + 1) x) m = .ok false m' := by
      unfold bNot gTru
      rw [t2]
      rfl
    unfold ac_3
    rw [if_no (show bAnd _ _ (acE q (e + 1) x) m = .ok false m' from by
      unfold bAnd
      rw [t1, Out.bind_ok]
      exact t3)]
    rfl
theorem eqInt {i j : Int} {g1 g2 : GE} (h1 : g1 en m = .ok (.int i) m) (h2 : g2 en m = .ok (.int j) m) : gAs (gBin (oEq false) g1 g2) en m = .ok (i == j) m := by
  unfold gAs
  rw [binOk h1 h2, oEqOk dpI dpI rfl rfl, eqI]
  rfl
noncomputable abbrev actM (R : FM) : FM := runF exitK 5 (g_Laction R)
theorem action_ok {R : FM} (g : Good q r m B W c n s pa) (hB : B + 2000 * (d + 1) ≤ 2 ^ 40) (hn : n + 15 * (d + 1) < 99) (hR : ∀ e, d = e + 1 → InnerOk R q e W c) :
    ∃ m3 r3 s3 pa3, Good q r3 m3 (B + 1000 * d + 500) W c (n + 15) s3 pa3 ∧ Gr q r m m3 ∧ ((∃ k : Nat, actM R [.ref 2, .ref q, .ref q, .int (d : Nat)] m = .ok (.tup [.str "told", .int (k : Nat)]) m3) ∨ actM R [.ref 2, .ref q, .ref q, .int (d : Nat)] m = .ex ⟨"KeyError", [], []⟩ m3 ∨ actM R [.ref 2, .ref q, .ref q, .int (d : Nat)] m = .ex ⟨"NothingToUndo", [], []⟩ m3) := by
  obtain ⟨m1, s1, pa1, e1, g1, f1⟩ := ok_calls (K := 15) (most := 15) (Nat.le_refl _) g (by omega) (by decide) (by decide) (by omega)
  obtain ⟨m2, r2, e2, g2, f2⟩ := ac3_ok (d := d) (x := none) g1 (by omega) (by omega) hR
  obtain ⟨dv, m3, e3, v, rfl, v0, v1, hs⟩ := (ok_draw (lim := 5) g2.so (by omega) (by omega) (by omega)).ex
  obtain ⟨g3, _⟩ := g2.src hs
  have f3 : Gr q r m2 m3 := Gr.ofFr (Fr.ofSrc g2.so hs)
  refine ⟨m3, r2, s1, pa1, g3.mono (by omega) (Nat.le_refl _), (f1.trans f2).trans f3, ?_⟩
  have a2 : ac_2 (acE q d none) m = .nx (acE q d none) m1 := expr_nx (gcall3 (a := .ref 2) (b := .ref q) (e := .int 15) rfl rfl rfl e1)
  have a4 : ac_4 (acE q d none) m2 = .nx (acE q d (some (.int v))) m3 := asg_nx (i := 4) (gcall2 (a := .ref 2) (b := .int 5) rfl rfl e3)
  have st : g_Laction R (acE q d none) m = sSeq ac_5 (sSeq ac_6 ac_7) (acE q d (some (.int v))) m3 := by
    rw [ac_eq, seq_nx (ac1_ok g), seq_nx a2, seq_nx e2, seq_nx a4]
  have run : ∀ o : SO, sSeq ac_5 (sSeq ac_6 ac_7) (acE q d (some (.int v))) m3 = o → actM R [.ref 2, .ref q, .ref q, .int (d : Nat)] m = (match o with
      | .nx _ m' => exitK m.length .non m'
      | .rt d m' => exitK m.length d m'
      | .ex x m' => .ex x m'
      | _ => .bad) := fun o ho => by
    subst ho
    unfold actM runF
    rw [show startE 5 [D.ref 2, .ref q, .ref q, .int (d : Nat)] = acE q d none from rfl, st]
    all_goals (cases sSeq ac_5 (sSeq ac_6 ac_7) (acE q d (some (.int v))) m3 <;> rfl)
  by_cases h0 : v = 0
  · subst h0
    refine .inr (.inl ?_)
    refine run (.ex ⟨"KeyError", [], []⟩ m3) ?_
    have : ac_5 (acE q d (some (.int 0))) m3 = .ex ⟨"KeyError", [], []⟩ m3 := by
      unfold ac_5
      rw [if_yes (show gAs (gBin (oEq false) (gVar 4) (gC (.int 0))) (acE q d (some (.int 0))) m3 = .ok true m3 from eqInt (i := 0) (j := 0) rfl gC_eq)]
      rfl
    unfold sSeq
    rw [this]
    rfl
  · have n0 : (v == (0 : Int)) = false := by rw [beq_eq_false_iff_ne]; exact h0
    have a5 : ac_5 (acE q d (some (.int v))) m3 = .nx (acE q d (some (.int v))) m3 := by
      unfold ac_5
      have := eqInt (m := m3) (en := acE q d (some (.int v))) (g1 := gVar 4) (g2 := gC (.int 0)) (i := v) (j := 0) rfl gC_eq
      rw [n0] at this
      rw [if_no this]
      rfl
    by_cases h1 : v = 1
    · subst h1
      refine .inr (.inr ?_)
      refine run (.ex ⟨"NothingToUndo", [], []⟩ m3) ?_
      have : ac_6 (acE q d (some (.int 1))) m3 = .ex ⟨"NothingToUndo", [], []⟩ m3 := by
        unfold ac_6
        rw [if_yes (show gAs (gBin (oEq false) (gVar 4) (gC (.int 1))) (acE q d (some (.int 1))) m3 = .ok true m3 from eqInt (i := 1) (j := 1) rfl gC_eq)]
        rfl
      rw [seq_nx a5]
      unfold sSeq
      rw [this]
      rfl
    · have n1 : (v == (1 : Int)) = false := by rw [beq_eq_false_iff_ne]; exact h1
      have a6 : ac_6 (acE q d (some (.int v))) m3 = .nx (acE q d (some (.int v))) m3 := by
        unfold ac_6
        have := eqInt (m := m3) (en := acE q d (some (.int v))) (g1 := gVar 4) (g2 := gC (.int 1)) (i := v) (j := 1) rfl gC_eq
        rw [n1] at this
        rw [if_no this]
        rfl
      refine .inl ⟨pa1.length, ?_⟩
      refine run (.rt (.tup [.str "told", .int (pa1.length : Nat)]) m3) ?_
      rw [seq_nx a5, seq_nx a6]
      unfold ac_7 sRet
      rw [tupO (acons rfl (acons (meth0 (x := "steps") (go := gVar 2) rfl g3.at_.isP rfl (ok_steps g3.at_.isP g3.at_.p)) anil)) (by simp only [List.length_cons, List.length_nil]; omega)]
      rfl
end
end Wk
namespace Wk
open PySem PySem.Spec L2 L3
open PyProof.Rows hiding St
section
variable {q r k d : Nat} {m m1 m3 m4 : Sto} {B W : Int} {c : Bool} {n : Nat} {s : PSt} {pa : List PSt} {en : Sl}
noncomputable def tr_1 : GS := sPar 3 4 (aCons (gCall 1 m_Lseen (aCons (gVar 1) aNil)) (aCons (gTup (aCons (gC (.str "told")) (aCons (gC (.int 0)) aNil))) aNil))
noncomputable def tr_k : GS := sAsg (gTup (aCons (gC (.str "told")) (aCons (gC (.int 0)) aNil))) (nName 4)
noncomputable def tr_l (A : FM) : GE := gCall 4 A (aCons (gVar 0) (aCons (gVar 1) (aCons (gVar 5) (aCons (gVar 2) aNil))))
noncomputable def tr_b (A : FM) : GS := sAsg (gReh 0 (("_law_trial_right.<locals>.<lambda>" : Str), (("_law_trial_right" : Str), (none : Option Str))) m_rehearsed (gVar 1) (tr_l A)) (nName 4)
noncomputable def tr_2 (A : FM) : GS := sTryK keE (subL errK) tr_k (("NothingToUndo", none, tr_k) :: []) (tr_b A)
noncomputable def tr_3 : GS := sRet (gAnd (gBin (oEqS false) (gBin oIx (gVar 4) (gC (.int 0))) (gC (.str "told"))) (gBin (oEq false) (gCall 1 m_Lseen (aCons (gVar 1) aNil)) (gVar 3)))
theorem trg_eq {A : FM} : g_Ltrial_right A = sSeq tr_1 (sSeq (tr_2 A) tr_3) := rfl
noncomputable abbrev trE (q d : Nat) (x y : Option D) : Sl := [some (.ref 2), some (.ref q), some (.int (d : Nat)), x, y]
abbrev toD (k : Nat) : D := .tup [.str "told", .int (k : Nat)]
theorem dpSeenV : D.dp 60 (seenV W s pa) = true := by
  have h1 : ∀ t : PSt, D.dp 59 (unT W t) = true := fun t => by
    unfold unT D.dp
    rw [dps_all]
    simp only [List.all_cons, List.all_nil, dpI, dpThs (n := 55), Bool.and_self]
  have h2 : D.dp 59 (firT W s pa.length) = true := by
    unfold firT D.dp
    rw [dps_all]
    simp only [List.all_cons, List.all_nil, dpI, dpThs (n := 55), dpTup 57, Bool.and_self]
  unfold seenV D.dp
  rw [dps_all, List.all_cons, h2, Bool.true_and, List.all_eq_true]
  intro x hx
  obtain ⟨t, _, rfl⟩ := List.mem_map.mp hx
  exact h1 t
theorem Good.seen (g : Good q r m B W c n s pa) (hn : n < 99) (h0 : 0 ≤ W) (h1 : W ≤ 10 ^ 30) : m_Lseen [.ref q] m = .ok (seenV W s pa) m :=
  ok_seenV g.at_ g.clo g.pq.p (fun t ht => (g.pq.ok t (List.mem_append_left _ ht)).1) (by have := g.pq.len; omega) h0 h1
theorem tr_told {k : Nat} {m : Sto} {en : Sl} : L3.gTup (aCons (gC (.str "told")) (aCons (gC (.int (k : Nat))) aNil)) en m = .ok (toD k) m := tupO (acons gC_eq (acons gC_eq anil)) (by simp only [List.length_cons, List.length_nil]; omega)
theorem gReh_ok {kk : Nat} {q0 : Str × Str × Option Str} {M : (D → Sto → Out D) → D → Sto → Out D} {gl : GE} {go : GE} {d : D} {o : Out D} (hg : go en m = .ok d m) (ht : m[kk]? = some (.tab q0)) (h : M (fun z m' => gl (en ++ [some z]) m') d m = o) : gReh kk q0 M go gl en m = o := by
  unfold gReh
  rw [hg, Out.bind_ok, ht]
  dsimp only
  rw [if_pos rfl]
  exact h
theorem tr2_ok {R : FM} (g : Good q r m B W c n s pa) (hB : B + 2000 * (d + 1) ≤ 2 ^ 40) (hn : n + 15 * (d + 1) < 99) (hR : ∀ e, d = e + 1 → InnerOk R q e W c) {x : Option D} {k0 : Nat} :
    ∃ m4 k, tr_2 (actM R) (trE q d x (some (toD k0))) m = .nx (trE q d x (some (toD k))) m4 ∧ Good q (m.length + 2) m4 (B + 1000 * d + 500) W c n s pa ∧ Gr q r m m4 := by
  obtain ⟨m3, r3, s3, pa3, g3, f3, ho⟩ := action_ok (d := d) g.tr hB hn hR
  obtain ⟨g4, f4, ht⟩ := g.back g3 f3
  have hl : ∀ {o : Out D}, actM R [.ref 2, .ref q, .ref q, .int (d : Nat)] (trS m q s pa) = o → (fun (z : D) (m' : Sto) => tr_l (actM R) (trE q d x (some (toD k0)) ++ [some z]) m') (.ref q) (trS m q s pa) = o := fun {o} h => by
    show tr_l (actM R) (trE q d x (some (toD k0)) ++ [some (.ref q)]) (trS m q s pa) = o
    unfold tr_l gCall
    rw [acons (rfl : gVar 0 (trE q d x (some (toD k0)) ++ [some (.ref q)]) (trS m q s pa) = .ok (.ref 2) (trS m q s pa)) (acons (rfl : gVar 1 (trE q d x (some (toD k0)) ++ [some (.ref q)]) (trS m q s pa) = .ok (.ref q) (trS m q s pa)) (acons (rfl : gVar 5 (trE q d x (some (toD k0)) ++ [some (.ref q)]) (trS m q s pa) = .ok (.ref q) (trS m q s pa)) (acons (rfl : gVar 2 (trE q d x (some (toD k0)) ++ [some (.ref q)]) (trS m q s pa) = .ok (.int (d : Nat)) (trS m q s pa)) anil))), Out.bind_ok]
    exact h
  have hG : ∀ {o : Out D}, m_rehearsed (fun z m' => tr_l (actM R) (trE q d x (some (toD k0)) ++ [some z]) m') (.ref q) m = o → gReh 0 (("_law_trial_right.<locals>.<lambda>" : Str), (("_law_trial_right" : Str), (none : Option Str))) m_rehearsed (gVar 1) (tr_l (actM R)) (trE q d x (some (toD k0))) m = o := fun {o} h => gReh_ok (d := .ref q) rfl g.so.t0 h
  have key : ∀ {e : Exn} {m5 : Sto}, gReh 0 (("_law_trial_right.<locals>.<lambda>" : Str), (("_law_trial_right" : Str), (none : Option Str))) m_rehearsed (gVar 1) (tr_l (actM R)) (trE q d x (some (toD k0))) m = .ex e m5 → tr_b (actM R) (trE q d x (some (toD k0))) m = .ex e m5 := fun {e m5} h => by
    unfold tr_b sAsg
    rw [h]
    rfl
  have ek : tr_k (trE q d x (some (toD k0))) (m3.set q (.ins "Pool" (flP (m.length + 2) W c s))) = .nx (trE q d x (some (toD 0))) (m3.set q (.ins "Pool" (flP (m.length + 2) W c s))) := asg_nx (i := 4) (tr_told (k := 0))
  rcases ho with ⟨k, ho⟩ | ho | ho
  · refine ⟨_, k, ?_, g4, f4⟩
    have e1 := hG (reh_ok g.at_ (hl ho) g3.at_ ht)
    have e2 : tr_b (actM R) (trE q d x (some (toD k0))) m = .nx (trE q d x (some (toD k))) (m3.set q (.ins "Pool" (flP (m.length + 2) W c s))) := asg_nx (i := 4) e1
    unfold tr_2 sTryK
    rw [e2]
  · refine ⟨_, 0, ?_, g4, f4⟩
    have e1 := key (hG (reh_ex g.at_ (hl ho) g3.at_ ht))
    unfold tr_2 sTryK
    rw [e1]
    dsimp only
    rw [if_pos rfl, ek]
    rfl
  · refine ⟨_, 0, ?_, g4, f4⟩
    have e1 := key (hG (reh_ex g.at_ (hl ho) g3.at_ ht))
    unfold tr_2 sTryK
    rw [e1]
    dsimp only
    rw [if_neg (by decide), if_pos (by decide)]
    unfold hTryN
    rw [show subL errK "NothingToUndo" "NothingToUndo" = some true from by decide +kernel]
    dsimp only
    rw [ek]
    rfl
theorem tr3_ok {x : Option D} {k : Nat} (g : Good q r m B W c n s pa) (hn : n < 99) (h0 : 0 ≤ W) (h1 : W ≤ 10 ^ 30) : tr_3 (trE q d (some (seenV W s pa)) (some (toD k))) m = .rt (.bl true) m := by
  have e1 : gBin (oEqS false) (gBin oIx (gVar 4) (gC (.int 0))) (gC (.str "told")) (trE q d (some (seenV W s pa)) (some (toD k))) m = .ok (.bl true) m := by
    have e0 : gBin oIx (gVar 4) (gC (.int 0)) (trE q d (some (seenV W s pa)) (some (toD k))) m = .ok (.str "told") m := (binOk (a := toD k) (b := .int 0) rfl gC_eq).trans rfl
    rw [binOk e0 gC_eq]
    rfl
  have e2 : gBin (oEq false) (gCall 1 m_Lseen (aCons (gVar 1) aNil)) (gVar 3) (trE q d (some (seenV W s pa)) (some (toD k))) m = .ok (.bl true) m := by
    rw [binOk (gcall1 (a := .ref q) rfl (g.seen hn h0 h1)) (rfl : gVar 3 (trE q d (some (seenV W s pa)) (some (toD k))) m = .ok (seenV W s pa) m)]
    exact eqSame dpSeenV rfl
  unfold tr_3 sRet
  rw [andB e1 e2]
  rfl
theorem trial_ok (h0 : 0 ≤ W) (h1 : W ≤ 10 ^ 30) : ∀ (N d : Nat), d < N → InnerOk (mr_Ltrial_right N) q d W c
  | 0, d, h => by omega
  | N + 1, d, h => fun r m B n s pa g hB hn => by
    have hR : ∀ e, d = e + 1 → InnerOk (mr_Ltrial_right N) q e W c := fun e he => trial_ok h0 h1 N e (by omega)
    obtain ⟨m4, k, e4, g4, f4⟩ := tr2_ok (R := mr_Ltrial_right N) (x := some (seenV W s pa)) (k0 := 0) g hB hn hR
    refine ⟨m4, m.length + 2, ?_, g4.mono (by omega) (Nat.le_refl _), f4⟩
    have a1 : tr_1 (trE q d none none) m = .nx (trE q d (some (seenV W s pa)) (some (toD 0))) m := par_nx (i := 3) (j := 4) (acons (gcall1 (a := .ref q) rfl (g.seen (by omega) h0 h1)) (acons (tr_told (k := 0)) anil))
    have st : g_Ltrial_right (actM (mr_Ltrial_right N)) (trE q d none none) m = .rt (.bl true) m4 := by
      rw [trg_eq, seq_nx a1, seq_nx e4]
      exact tr3_ok (x := none) g4 (by omega) h0 h1
    show runF exitK 5 (g_Ltrial_right (actM (mr_Ltrial_right N))) [.ref 2, .ref q, .int (d : Nat)] m = _
    unfold runF
    rw [show startE 5 [D.ref 2, .ref q, .int (d : Nat)] = trE q d none none from rfl, st]
    rfl
end
end Wk
namespace Wk
open PySem PySem.Spec L2 L3
open PyProof.Rows hiding St
abbrev mk5 (m : Sto) (W : Int) (c : Bool) : Sto := m ++ [.ins "Pool" (flP (m.length + 1) W c (0, [])), .lst []]
noncomputable def ri_m : GE := gMakeMK "Pool" 1 1 [0, 1, 2] m_Pool_init (aCons (gCall 2 m_Ldraw (aCons (gVar 0) (aCons (gC (.int 31)) aNil))) aNil) (aCons (gBin (oEq false) (gCall 2 m_Ldraw (aCons (gVar 0) (aCons (gC (.int 2)) aNil))) (gC (.int 0))) aNil)
noncomputable def ri_t : GS := sSeq (sExpr (gCall 3 m_Lsome_calls (aCons (gVar 0) (aCons (gVar 1) (aCons (gC (.int 10)) aNil)))))
  (sIf (bNot (gTru (gCall 3 m_Ltrial_right (aCons (gVar 0) (aCons (gVar 1) (aCons (gCall 2 m_Ldraw (aCons (gVar 0) (aCons (gC (.int 3)) aNil))) aNil))))))
  (sRet (gC (.bl false)))
  sNext)
noncomputable def ri_l : GE := gMeth "Pool" "begin" 2 m_Pool_begin (gVar 4) (aCons (gTup (aCons (gC (.int 1)) aNil)) aNil)
noncomputable def ri_a : GE := gReh 1 (("_law_right.<locals>.<lambda>" : Str), (("_law_right" : Str), (none : Option Str))) m_rehearsed (gVar 1) ri_l
noncomputable def ri_e : GE := gBin (oEqS false) (gB bReprX (aCons (gMeth "Pool" "begin" 2 m_Pool_begin (gVar 1) (aCons (gTup (aCons (gC (.int 1)) aNil)) aNil)) aNil)) (gB bReprX (aCons (gVar 3) aNil))
theorem ri_eq : m_Lright = runF exitF 4 (sSeq (sAsg ri_m (nName 1)) (sSeq (sFor (iRange1 (gC (.int 4))) (nName 2) ri_t) (sSeq (sAsg ri_a (nName 3)) (sRet ri_e)))) := rfl
section
variable {q r k d : Nat} {m m1 m2 m3 m4 : Sto} {B W : Int} {c : Bool} {n i : Nat} {s : PSt} {pa : List PSt} {en : Sl}
theorem ok_makeD5 {gs gk : GA} (h0 : 0 ≤ W) (h1 : W ≤ 10 ^ 30) (hs : gs en m = .ok [.int W] m1) (hk : gk en m1 = .ok [.bl c] m2) : gMakeMK "Pool" 1 1 [0, 1, 2] m_Pool_init gs gk en m = .ok (.ref m2.length) (mk5 m2 W c) := by
  unfold gMakeMK
  rw [hs]
  simp only [Out.bind_ok]
  rw [hk]
  simp only [Out.bind_ok]
  have hi := ok_init (m := m2) (c := c) h0 h1
  generalize m_Pool_init = F at hi ⊢
  show (F [.ref m2.length, .int W, .bl c] (m2 ++ [.ins "Pool" []])).bind _ = _
  rw [hi]
  rfl
theorem good_new (hs : SrcR B [] m) : m.length = 3 ∧ Good 3 4 (mk5 m W c) B W c 0 (0, []) [] := by
  have hl : m.length = 3 := hs.len
  obtain ⟨x, y, z, e, hz⟩ := hs.ex
  refine ⟨hl, ⟨So.of (rest := [.ins "Pool" (flP 4 W c (0, [])), .lst []]) ⟨x, y, z, ?_, hz⟩, ?_, ?_, PQ.zero, Nat.le_refl _, by decide⟩⟩
  · rw [e]; rfl
  · rw [e]
    exact ⟨rfl, rfl, by decide⟩
  · refine clo_app hs.one fun y hy => ?_
    simp only [List.mem_cons, List.not_mem_nil, or_false] at hy
    rcases hy with rfl | rfl
    · exact bel_pool (by simp only [List.length_cons, List.length_nil]; omega)
    · rfl
abbrev riE (q : Nat) (x2 x3 : Option D) : Sl := [some (.ref 2), some (.ref q), x2, x3]
theorem ri_turn (g : Good q r m B W c (10 * i) s pa) (hi : i < 4) (hB : B ≤ 2 ^ 38) (h0 : 0 ≤ W) (h1 : W ≤ 10 ^ 30) {x2 x3 : Option D} :
    ∃ m' r' s' pa', ri_t (riE q x2 x3) m = .nx (riE q x2 x3) m' ∧ Good q r' m' (B + 4000) W c (10 * (i + 1)) s' pa' := by
  obtain ⟨m1, s1, pa1, e1, g1, _⟩ := ok_calls (K := 10) (most := 10) (by decide) g (by omega) (by decide) (by decide) (by omega)
  obtain ⟨dv, m2, e2, v, rfl, v0, v1, hs⟩ := (ok_draw (lim := 3) g1.so (by omega) (by omega) (by omega)).ex
  obtain ⟨g2, _⟩ := g1.src hs
  obtain ⟨dn, hd⟩ : ∃ dn : Nat, v = dn := ⟨v.toNat, by omega⟩
  subst hd
  obtain ⟨m3, r3, e3, g3, _⟩ := trial_ok (c := c) (q := q) h0 h1 4 dn (by omega) r m2 _ _ s1 pa1 g2 (by omega) (by omega)
  refine ⟨m3, r3, s1, pa1, ?_, g3.mono (by omega) (by omega)⟩
  have a1 : sExpr (gCall 3 m_Lsome_calls (aCons (gVar 0) (aCons (gVar 1) (aCons (gC (.int 10)) aNil)))) (riE q x2 x3) m = .nx (riE q x2 x3) m1 := expr_nx (gcall3 (a := .ref 2) (b := .ref q) (e := .int 10) rfl rfl rfl e1)
  have a2 : gCall 3 m_Ltrial_right (aCons (gVar 0) (aCons (gVar 1) (aCons (gCall 2 m_Ldraw (aCons (gVar 0) (aCons (gC (.int 3)) aNil))) aNil))) (riE q x2 x3) m1 = .ok (.bl true) m3 := by
    unfold gCall
    rw [acons (rfl : gVar 0 (riE q x2 x3) m1 = .ok (.ref 2) m1) (acons (rfl : gVar 1 (riE q x2 x3) m1 = .ok (.ref q) m1) (acons (show (fun en m0 => ((aCons (gVar 0) (aCons (gC (.int 3)) aNil)) en m0).bind fun ds m1 => if ds.length = 2 then m_Ldraw ds m1 else .bad) (riE q x2 x3) m1 = .ok (.int (dn : Nat)) m2 from gcall2 (F := m_Ldraw) (a := .ref 2) (b := .int 3) rfl rfl e2) anil)), Out.bind_ok]
    exact e3
  have a3 : bNot (gTru (gCall 3 m_Ltrial_right (aCons (gVar 0) (aCons (gVar 1) (aCons (gCall 2 m_Ldraw (aCons (gVar 0) (aCons (gC (.int 3)) aNil))) aNil))))) (riE q x2 x3) m1 = .ok false m3 := by
    unfold bNot gTru
    rw [a2]
    rfl
  unfold ri_t
  rw [seq_nx a1, if_no a3]
  rfl
theorem isPlan1 : IsPlan [1] := ⟨by decide, by decide, by intro x hx; simp at hx; omega, by decide⟩
theorem begin1 (g : Good q r m B W c n s pa) (hn : n < 99) : m_Pool_begin [.ref q, tupD [1]] m = .ok (.int s.1) (upQ q r m W c (s.1 + 1, s.2 ++ [(s.1, [1], 0)]) (pa ++ [s])) ∧ Good q r (upQ q r m W c (s.1 + 1, s.2 ++ [(s.1, [1], 0)]) (pa ++ [s])) B W c (n + 1) (s.1 + 1, s.2 ++ [(s.1, [1], 0)]) (pa ++ [s]) := by
  have hp := g.pq.len
  refine ⟨ok_begin g.at_ isPlan1 g.pq.p.l100 (by omega), ?_⟩
  have hs := g.so.up (W := W) (c := c) (s := (s.1 + 1, s.2 ++ [(s.1, [1], 0)])) (pa := pa ++ [s]) g.q3 g.r3
  exact ⟨hs, g.at_.up, Fr.up.clo g.clo hs g.at_.up, g.pq.begin isPlan1 (by omega), g.q3, g.r3⟩
theorem tup1 {m : Sto} : L3.gTup (aCons (gC (.int 1)) aNil) en m = .ok (tupD [1]) m := tupO (acons gC_eq anil) (show ([D.int 1] : List D).length ≤ 100 from by decide)
theorem ri_end (g : Good q r m B W c n s pa) (hn : n < 98) {x2 : Option D} : ∃ m5, sRet ri_e (riE q x2 (some (.int s.1))) m = .rt (.bl true) m5 ∧ So B m5 := by
  obtain ⟨e5, g5⟩ := begin1 g (by omega)
  generalize upQ q r m W c (s.1 + 1, s.2 ++ [(s.1, [1], 0)]) (pa ++ [s]) = m5 at e5 g5
  refine ⟨m5, ?_, g5.so⟩
  have P := g.pq.p
  have hc : (1000 : Int) ≤ CF := by decide
  have h0 := P.a0
  have h1 := P.a1
  have rp : ∀ mm : Sto, bReprX [.int s.1] mm = .ok (.str (xtext (.int s.1))) mm := fun mm => reprF (n := 0) (w := 2000) (avI (by omega) (by omega)) (by decide) (by decide)
  have b0 : gMeth "Pool" "begin" 2 m_Pool_begin (gVar 1) (aCons (gTup (aCons (gC (.int 1)) aNil)) aNil) (riE q x2 (some (.int s.1))) m = .ok (.int s.1) m5 := methS (x := "begin") (go := gVar 1) rfl g.at_.isP rfl tup1 e5
  have b1 : gB bReprX (aCons (gMeth "Pool" "begin" 2 m_Pool_begin (gVar 1) (aCons (gTup (aCons (gC (.int 1)) aNil)) aNil)) aNil) (riE q x2 (some (.int s.1))) m = .ok (.str (xtext (.int s.1))) m5 := by
    rw [gb_ok (acons b0 anil)]
    exact rp _
  have b2 : gB bReprX (aCons (gVar 3) aNil) (riE q x2 (some (.int s.1))) m5 = .ok (.str (xtext (.int s.1))) m5 := by
    rw [gb_ok (acons (rfl : gVar 3 (riE q x2 (some (.int s.1))) m5 = .ok (.int s.1) m5) anil)]
    exact rp _
  have b3 : ri_e (riE q x2 (some (.int s.1))) m = .ok (.bl true) m5 := by
    unfold ri_e
    rw [binOk b1 b2]
    show Out.ok (D.bl (if (false : Bool) = true then _ else xtext (.int s.1) == xtext (.int s.1))) m5 = _
    rw [if_neg (by decide), beq_self_eq_true]
  unfold sRet
  rw [b3]
  rfl
theorem ri_last (g : Good q r m B W c n s pa) (hn : n < 98) {x2 x3 : Option D} : ∃ m5, sSeq (sAsg ri_a (nName 3)) (sRet ri_e) (riE q x2 x3) m = .rt (.bl true) m5 ∧ So B m5 := by
  obtain ⟨e1, g1⟩ := begin1 g.tr (by omega)
  have f1 : Gr q r (trS m q s pa) (upQ q r (trS m q s pa) W c (s.1 + 1, s.2 ++ [(s.1, [1], 0)]) (pa ++ [s])) := Gr.ofFr Fr.up
  generalize upQ q r (trS m q s pa) W c (s.1 + 1, s.2 ++ [(s.1, [1], 0)]) (pa ++ [s]) = m3 at e1 g1 f1
  obtain ⟨g4, _, ht⟩ := g.back g1 f1
  have hL : (fun (z : D) (m' : Sto) => ri_l (riE q x2 x3 ++ [some z]) m') (.ref q) (trS m q s pa) = .ok (.int s.1) m3 := by
    show ri_l (riE q x2 x3 ++ [some (.ref q)]) (trS m q s pa) = _
    unfold ri_l
    exact methS (x := "begin") (go := gVar 4) (en := riE q x2 x3 ++ [some (.ref q)]) rfl g.tr.at_.isP rfl tup1 e1
  have a1 : sAsg ri_a (nName 3) (riE q x2 x3) m = .nx (riE q x2 (some (.int s.1))) (m3.set q (.ins "Pool" (flP (m.length + 2) W c s))) := asg_nx (i := 3) (gReh_ok (d := .ref q) rfl g.so.t1 (reh_ok g.at_ hL g1.at_ ht))
  rw [seq_nx a1]
  exact ri_end g4 hn
theorem ok_right (hs : SrcR B [] m) (hB : B ≤ 2 ^ 36) : (m_Lright [.ref 2] m).sat fun d m' => d = .bl true ∧ SrcR (B + 20000) [] m' := by
  obtain ⟨d, m1, e1, W, rfl, w0, w1, hs1⟩ := (ok_draw (lim := 31) hs (by omega) (by omega) (by omega)).ex
  obtain ⟨d, m2, e2, v, rfl, u0, u1, hs2⟩ := (ok_draw (lim := 2) hs1 (by omega) (by omega) (by omega)).ex
  have hW : W ≤ 10 ^ 30 := Int.le_trans (Int.le_of_lt w1) (by decide)
  have hm : ri_m [some (.ref 2), none, none, none] m = .ok (.ref m2.length) (mk5 m2 W (v == 0)) := by
    have eq0 : gBin (oEq false) (gCall 2 m_Ldraw (aCons (gVar 0) (aCons (gC (.int 2)) aNil))) (gC (.int 0)) [some (.ref 2), none, none, none] m1 = .ok (.bl (v == 0)) m2 := by
      have := oEqOk (m := m2) (a := .int v) (b := .int 0) dpI dpI rfl rfl
      rw [binOk (gcall2 rfl rfl e2) gC_eq, this, eqI]
    exact ok_makeD5 w0 hW (acons (gcall2 rfl rfl e1) anil) (acons eq0 anil)
  obtain ⟨l2, G0⟩ := good_new (W := W) (c := v == 0) hs2
  rw [l2] at hm
  rw [ri_eq, runF_sat]
  rw [show startE 4 [D.ref 2] = [some (.ref 2), none, none, none] from rfl, seq_nx (asg_nx (i := 1) hm)]
  rw [show List.set [some (D.ref 2), none, none, none] 1 (some (D.ref 3)) = riE 3 none none from rfl]
  unfold sSeq
  rw [sat_then]
  refine for_sat (fun src i en m' => src = ⟨rng 0 4, []⟩ ∧ i ≤ 4 ∧ (∃ x2 x3, en = riE 3 x2 x3) ∧ ∃ r s pa, Good 3 r m' (B + 1 + 1 + 4000 * i) W (v == 0) (10 * i) s pa)
    (sat_of (b := ⟨rng 0 4, []⟩) (m := mk5 m2 W (v == 0)) (iRange1_ok (j := 4) rfl (by decide) (by decide)) ⟨?_, ⟨rfl, Nat.zero_le _, ⟨_, _, rfl⟩, 4, (0, []), [], G0.mono (by omega) (Nat.le_refl _)⟩, ?_, ?_⟩)
  · rintro i en m ⟨e, _⟩
    rw [e]
    exact Src.ok_fixed _ _
  · rintro i d en m5 hd ⟨e, hi, ⟨x2, x3, rfl⟩, r, s, pa, G⟩
    rw [e] at hd
    obtain ⟨hi, rfl⟩ := rng_get hd
    rw [show nName 2 (D.int (0 + (i : Nat))) (riE 3 x2 x3) m5 = .ok (riE 3 (some (.int (0 + (i : Nat)))) x3) m5 from rfl, sat_ok]
    obtain ⟨m6, r6, s6, pa6, e6, G6⟩ := ri_turn (x2 := some (.int (0 + (i : Nat)))) (x3 := x3) G hi (by omega) w0 hW
    rw [e6, sat_nx]
    exact ⟨e, by omega, ⟨_, _, rfl⟩, r6, s6, pa6, G6.mono (by omega) (Nat.le_refl _)⟩
  · rintro en m5 ⟨e, hi, ⟨x2, x3, rfl⟩, r, s, pa, G⟩
    rw [e] at G
    have hlen : (⟨rng 0 4, []⟩ : L3.Src).items.length = 4 := rng_length _ _
    rw [hlen] at G
    obtain ⟨m8, e8, so8⟩ := ri_last (x2 := x2) (x3 := x3) G (by omega)
    unfold sSeq at e8
    rw [e8, sat_rt]
    have so9 : SrcR (B + 1 + 1 + 4000 * (4 : Nat)) ([] ++ m8.drop 3) m8 := so8
    obtain ⟨m9, e9, hs9⟩ := so9.exit Cl.nil (d := .bl true) (by unfold D.bel; rfl)
    have hl : m.length = ([] : Sto).length + 3 := hs.len
    rw [hl]
    refine sat_of e9 ⟨rfl, hs9.mono (by omega)⟩
end
end Wk
namespace Wk
open PySem PySem.Spec L2 L3
open PyProof.Rows hiding St
theorem rep_bl (n : Nat) : List.replicate n (D.bl true) = (List.replicate n true).map D.bl := by simp
abbrev turns : Nat := 2
theorem ok_all {m : Sto} {x0 x1 x3 : Option D} (hs : SrcR 0 [] m) : (gLc (iRange1 (gC (.int 2))) (nName 3) cYes (gCall 1 m_Lright (aCons (gVar 2) aNil)) [3] [x0, x1, some (.ref 2), x3] m).sat fun d m' => d = .lst ((List.replicate turns true).map .bl) ∧ SrcR 100000 [] m' := by
  have e4 : (⟨rng 0 turns, []⟩ : L3.Src).items.length = turns := rng_length _ _
  refine lc_sat (fun src i acc m' => src = ⟨rng 0 turns, []⟩ ∧ SrcR (20000 * i) [] m' ∧ i ≤ turns ∧ acc = List.replicate i (.bl true)) (sat_of (b := ⟨rng 0 turns, []⟩) (m := m) (iRange1_ok (j := 2) rfl (by decide) (by decide)) ⟨?_, ⟨rfl, hs.mono (by omega), by omega, rfl⟩, ?_, ?_⟩)
  · rintro i acc m' ⟨e, _⟩
    rw [e]
    exact Src.ok_fixed _ _
  · rintro i d acc m' hd ⟨e, hs, hi, rfl⟩
    rw [e] at hd
    obtain ⟨hlt, rfl⟩ := rng_get hd
    simp -implicitDefEqProofs only [wipeE, sSeq, sAsg, sRet, sRetN, sIf, sExpr, sPar, sPar3, sNext, gBin, gUn, gAs, gChain, gIf, gB, gBM, gCall, aCons, aNil, gTru, bNot, bAnd, bOr, gAnd, gOr, gNot, L3.gTup, L3.gLst, gLstM, gCut, gPart, gFld, gDget1, gDisp, gPairs, gDnewK, nTup, nCons, nNil, nSub, nFld, nName_eq, gVar_0, gVar_s, gC_eq, cYes, sat_ok, sat_bad, sat_bind, sat_guard, sat_if, sat_nox, sat_nx, sat_rt, sat_bk, sat_ct, sat_sbad, sat_sif, sat_ofOut, sat_then, Out.bind_ok, startE, List.map_cons, List.map_nil, List.length_cons, List.length_nil, List.replicate_succ, List.replicate_zero, List.cons_append, List.nil_append, List.append_nil, List.set_cons_zero, List.set_cons_succ, Nat.reduceSub, Nat.reduceAdd, if_true, if_false, Bool.false_eq_true, oAdd_i, oSub_i, oMul_i, oDiv_i, oMod_i, oPow3_i, oNeg_i, oI_i, oLt_i, oEqS_s, oIsN_eq, oNotN_eq, truD_b, truD_i, bAbs_i, bInt_b, bInt_i, bMax2_i, bMin2_i, srcT_0, srcT_1, srcT_2, srcT_p0, srcT_p2, exitF_1, exitF_0, exitK_eq, decide_eq_true_eq, Nat.zero_add, if_f, eq_self, true_and, and_true, bLen_scr, bLen_lst, bLen_tup, bTuple_lst, bTuple_tup, bAny_b, bAll_b, bSortedSet_i, bSortedSetX_i, oEq_ii]
    have h10 : turns = 2 := rfl
    refine (ok_right hs (by omega)).mono fun d m1 ⟨q1, q2⟩ => ?_
    subst q1
    have hfin : SrcR (20000 * ((i + 1 : Nat) : Int)) [] m1 ∧ i + 1 ≤ turns ∧ List.replicate i (D.bl true) ++ [.bl true] = List.replicate (i + 1) (.bl true) := ⟨q2.mono (by omega), by omega, by rw [← List.replicate_succ']⟩
    refine ⟨by rw [sizeLine_eq, List.length_replicate]; omega, ?_⟩
    first | exact hfin | exact ⟨e, hfin⟩ | (rw [List.replicate_succ] at hfin; exact hfin)
  · rintro acc m' ⟨e, hs, hi, rfl⟩
    rw [e] at hs
    rw [e, e4]
    rw [e4] at hs
    exact ⟨by rw [rep_bl], hs.mono (by decide)⟩
theorem g_nox {N B C : SlP} {R : D → Sto → Prop} {en : Sl} {m : Sto} (h : (g_law en m).sat N R B C) : (sNoxS g_law en m).sat N R B C := by
  unfold sNoxS
  cases e : g_law en m with
  | ex x m1 => rw [e] at h; exact absurd h.run0 (fun q => q)
  | nx en2 m2 => rw [e] at h; exact h
  | bk en2 m2 => rw [e] at h; exact h
  | ct en2 m2 => rw [e] at h; exact h
  | rt d m2 => rw [e] at h; exact h
  | bad => rw [e] at h; exact h
abbrev tb0 : Sto := tfs.map .tab
theorem SrcR.tb {B : Int} {m : Sto} (h : SrcR B [] m) : m.take tb0.length = tb0 := by
  obtain ⟨a, b, c, e, _⟩ := h.ex
  rw [e]; rfl
theorem ok_law (ns : List Int) (hl : ns.length ≤ 63) : (m_law [.scr ns] tb0).sat fun d _ => d = .bl true := by
  unfold m_law
  rw [runF_sat]
  refine g_nox ?_
  unfold g_law
  simp -implicitDefEqProofs only [sSeq, sAsg, sRet, sRetN, sIf, sExpr, sPar, sPar3, sNext, gBin, gUn, gAs, gChain, gIf, gB, gBM, gCall, aCons, aNil, gTru, bNot, bAnd, bOr, gAnd, gOr, gNot, L3.gTup, L3.gLst, gLstM, gCut, gPart, gFld, gDget1, gDisp, gPairs, gDnewK, nTup, nCons, nNil, nSub, nFld, nName_eq, gVar_0, gVar_s, gC_eq, cYes, sat_ok, sat_bad, sat_bind, sat_guard, sat_if, sat_nox, sat_nx, sat_rt, sat_bk, sat_ct, sat_sbad, sat_sif, sat_ofOut, sat_then, Out.bind_ok, startE, List.map_cons, List.map_nil, List.length_cons, List.length_nil, List.replicate_succ, List.replicate_zero, List.cons_append, List.nil_append, List.append_nil, List.set_cons_zero, List.set_cons_succ, Nat.reduceSub, Nat.reduceAdd, if_true, if_false, Bool.false_eq_true, oAdd_i, oSub_i, oMul_i, oDiv_i, oMod_i, oPow3_i, oNeg_i, oI_i, oLt_i, oEqS_s, oIsN_eq, oNotN_eq, truD_b, truD_i, bAbs_i, bInt_b, bInt_i, bMax2_i, bMin2_i, srcT_0, srcT_1, srcT_2, srcT_p0, srcT_p2, exitF_1, exitF_0, exitK_eq, decide_eq_true_eq, Nat.zero_add, if_f, eq_self, true_and, and_true, bLen_scr, bLen_lst, bLen_tup, bTuple_lst, bTuple_tup, bAny_b, bAll_b, bSortedSet_i, bSortedSetX_i, oEq_ii]
  refine for_sat (fun src i en m => src.lives = [] ∧ src.items.length ≤ 3 ∧ (∀ (i : Nat) (d : D), src.items[i]? = some d → d = D.int (0 + (i : Nat))) ∧ m = tb0 ∧ ∃ x1 x2 x3, en = [some (.scr ns), x1, x2, x3])
    (Out.sat.mono (P := fun src m => ∃ n : Nat, src = ⟨rng 0 n, []⟩ ∧ n ≤ 3 ∧ m = tb0) ?hi fun src m ⟨n, e, hn, em⟩ => ⟨?_, ⟨by rw [e], by rw [e]; show (rng 0 n).length ≤ 3; rw [rng_length]; exact hn, fun i d h => by rw [e] at h; exact (rng_get h).2, em, _, _, _, rfl⟩, ?_, ?_⟩)
  case hi =>
    refine iRange1_sat ?_
    simp -implicitDefEqProofs only [sSeq, sAsg, sRet, sRetN, sIf, sExpr, sPar, sPar3, sNext, gBin, gUn, gAs, gChain, gIf, gB, gBM, gCall, aCons, aNil, gTru, bNot, bAnd, bOr, gAnd, gOr, gNot, L3.gTup, L3.gLst, gLstM, gCut, gPart, gFld, gDget1, gDisp, gPairs, gDnewK, nTup, nCons, nNil, nSub, nFld, nName_eq, gVar_0, gVar_s, gC_eq, cYes, sat_ok, sat_bad, sat_bind, sat_guard, sat_if, sat_nox, sat_nx, sat_rt, sat_bk, sat_ct, sat_sbad, sat_sif, sat_ofOut, sat_then, Out.bind_ok, startE, List.map_cons, List.map_nil, List.length_cons, List.length_nil, List.replicate_succ, List.replicate_zero, List.cons_append, List.nil_append, List.append_nil, List.set_cons_zero, List.set_cons_succ, Nat.reduceSub, Nat.reduceAdd, if_true, if_false, Bool.false_eq_true, oAdd_i, oSub_i, oMul_i, oDiv_i, oMod_i, oPow3_i, oNeg_i, oI_i, oLt_i, oEqS_s, oIsN_eq, oNotN_eq, truD_b, truD_i, bAbs_i, bInt_b, bInt_i, bMax2_i, bMin2_i, srcT_0, srcT_1, srcT_2, srcT_p0, srcT_p2, exitF_1, exitF_0, exitK_eq, decide_eq_true_eq, Nat.zero_add, if_f, eq_self, true_and, and_true, bLen_scr, bLen_lst, bLen_tup, bTuple_lst, bTuple_tup, bAny_b, bAll_b, bSortedSet_i, bSortedSetX_i, oEq_ii]
    refine ⟨_, rfl, ?_, ?_, _, rfl, ?_⟩ <;> (split <;> (try split) <;> omega)
  · rintro i en m ⟨e, _⟩
    exact Src.ok_of fun p hp => by rw [e] at hp; cases hp
  · rintro i d en m hd ⟨e1, e2, e3, rfl, x1, x2, x3, rfl⟩
    have := e3 i d hd
    subst this
    have hi := (List.getElem?_eq_some_iff.mp hd).1
    simp -implicitDefEqProofs only [sSeq, sAsg, sRet, sRetN, sIf, sExpr, sPar, sPar3, sNext, gBin, gUn, gAs, gChain, gIf, gB, gBM, gCall, aCons, aNil, gTru, bNot, bAnd, bOr, gAnd, gOr, gNot, L3.gTup, L3.gLst, gLstM, gCut, gPart, gFld, gDget1, gDisp, gPairs, gDnewK, nTup, nCons, nNil, nSub, nFld, nName_eq, gVar_0, gVar_s, gC_eq, cYes, sat_ok, sat_bad, sat_bind, sat_guard, sat_if, sat_nox, sat_nx, sat_rt, sat_bk, sat_ct, sat_sbad, sat_sif, sat_ofOut, sat_then, Out.bind_ok, startE, List.map_cons, List.map_nil, List.length_cons, List.length_nil, List.replicate_succ, List.replicate_zero, List.cons_append, List.nil_append, List.append_nil, List.set_cons_zero, List.set_cons_succ, Nat.reduceSub, Nat.reduceAdd, if_true, if_false, Bool.false_eq_true, oAdd_i, oSub_i, oMul_i, oDiv_i, oMod_i, oPow3_i, oNeg_i, oI_i, oLt_i, oEqS_s, oIsN_eq, oNotN_eq, truD_b, truD_i, bAbs_i, bInt_b, bInt_i, bMax2_i, bMin2_i, srcT_0, srcT_1, srcT_2, srcT_p0, srcT_p2, exitF_1, exitF_0, exitK_eq, decide_eq_true_eq, Nat.zero_add, if_f, eq_self, true_and, and_true, bLen_scr, bLen_lst, bLen_tup, bTuple_lst, bTuple_tup, bAny_b, bAll_b, bSortedSet_i, bSortedSetX_i, oEq_ii]
    refine sat_trim ?_
    simp -implicitDefEqProofs only [sSeq, sAsg, sRet, sRetN, sIf, sExpr, sPar, sPar3, sNext, gBin, gUn, gAs, gChain, gIf, gB, gBM, gCall, aCons, aNil, gTru, bNot, bAnd, bOr, gAnd, gOr, gNot, L3.gTup, L3.gLst, gLstM, gCut, gPart, gFld, gDget1, gDisp, gPairs, gDnewK, nTup, nCons, nNil, nSub, nFld, nName_eq, gVar_0, gVar_s, gC_eq, cYes, sat_ok, sat_bad, sat_bind, sat_guard, sat_if, sat_nox, sat_nx, sat_rt, sat_bk, sat_ct, sat_sbad, sat_sif, sat_ofOut, sat_then, Out.bind_ok, startE, List.map_cons, List.map_nil, List.length_cons, List.length_nil, List.replicate_succ, List.replicate_zero, List.cons_append, List.nil_append, List.append_nil, List.set_cons_zero, List.set_cons_succ, Nat.reduceSub, Nat.reduceAdd, if_true, if_false, Bool.false_eq_true, oAdd_i, oSub_i, oMul_i, oDiv_i, oMod_i, oPow3_i, oNeg_i, oI_i, oLt_i, oEqS_s, oIsN_eq, oNotN_eq, truD_b, truD_i, bAbs_i, bInt_b, bInt_i, bMax2_i, bMin2_i, srcT_0, srcT_1, srcT_2, srcT_p0, srcT_p2, exitF_1, exitF_0, exitK_eq, decide_eq_true_eq, Nat.zero_add, if_f, eq_self, true_and, and_true, bLen_scr, bLen_lst, bLen_tup, bTuple_lst, bTuple_tup, bAny_b, bAll_b, bSortedSet_i, bSortedSetX_i, oEq_ii]
    refine (ok_start (ns := ns) (k := 0 + (i : Nat)) (by omega) (by omega)).mono fun d m1 ⟨e, hs⟩ => ?_
    subst e
    refine (ok_all hs).mono fun d m4 ⟨e, hs4⟩ => ?_
    subst e
    refine sat_of (bAll_b (bs := List.replicate turns true)) ?_
    rw [show (List.replicate turns true).all id = true from rfl]
    simp -implicitDefEqProofs only [Bool.not_true, sSeq, sAsg, sRet, sRetN, sIf, sExpr, sPar, sPar3, sNext, gBin, gUn, gAs, gChain, gIf, gB, gBM, gCall, aCons, aNil, gTru, bNot, bAnd, bOr, gAnd, gOr, gNot, L3.gTup, L3.gLst, gLstM, gCut, gPart, gFld, gDget1, gDisp, gPairs, gDnewK, nTup, nCons, nNil, nSub, nFld, nName_eq, gVar_0, gVar_s, gC_eq, cYes, sat_ok, sat_bad, sat_bind, sat_guard, sat_if, sat_nox, sat_nx, sat_rt, sat_bk, sat_ct, sat_sbad, sat_sif, sat_ofOut, sat_then, Out.bind_ok, startE, List.map_cons, List.map_nil, List.length_cons, List.length_nil, List.replicate_succ, List.replicate_zero, List.cons_append, List.nil_append, List.append_nil, List.set_cons_zero, List.set_cons_succ, Nat.reduceSub, Nat.reduceAdd, if_true, if_false, Bool.false_eq_true, oAdd_i, oSub_i, oMul_i, oDiv_i, oMod_i, oPow3_i, oNeg_i, oI_i, oLt_i, oEqS_s, oIsN_eq, oNotN_eq, truD_b, truD_i, bAbs_i, bInt_b, bInt_i, bMax2_i, bMin2_i, srcT_0, srcT_1, srcT_2, srcT_p0, srcT_p2, exitF_1, exitF_0, exitK_eq, decide_eq_true_eq, Nat.zero_add, if_f, eq_self, true_and, and_true, bLen_scr, bLen_lst, bLen_tup, bTuple_lst, bTuple_tup, bAny_b, bAll_b, bSortedSet_i, bSortedSetX_i, oEq_ii]
    have ht : m4.take tb0.length = tb0 := hs4.tb
    refine ⟨?_, e1, e2, e3, ?_⟩
    · show (m4.take tb0.length).all _ = true
      rw [ht]; rfl
    · exact ⟨ht, _, _, _, rfl⟩
  · rintro en m ⟨_, _, _, rfl, x1, x2, x3, rfl⟩
    simp -implicitDefEqProofs only [sSeq, sAsg, sRet, sRetN, sIf, sExpr, sPar, sPar3, sNext, gBin, gUn, gAs, gChain, gIf, gB, gBM, gCall, aCons, aNil, gTru, bNot, bAnd, bOr, gAnd, gOr, gNot, L3.gTup, L3.gLst, gLstM, gCut, gPart, gFld, gDget1, gDisp, gPairs, gDnewK, nTup, nCons, nNil, nSub, nFld, nName_eq, gVar_0, gVar_s, gC_eq, cYes, sat_ok, sat_bad, sat_bind, sat_guard, sat_if, sat_nox, sat_nx, sat_rt, sat_bk, sat_ct, sat_sbad, sat_sif, sat_ofOut, sat_then, Out.bind_ok, startE, List.map_cons, List.map_nil, List.length_cons, List.length_nil, List.replicate_succ, List.replicate_zero, List.cons_append, List.nil_append, List.append_nil, List.set_cons_zero, List.set_cons_succ, Nat.reduceSub, Nat.reduceAdd, if_true, if_false, Bool.false_eq_true, oAdd_i, oSub_i, oMul_i, oDiv_i, oMod_i, oPow3_i, oNeg_i, oI_i, oLt_i, oEqS_s, oIsN_eq, oNotN_eq, truD_b, truD_i, bAbs_i, bInt_b, bInt_i, bMax2_i, bMin2_i, srcT_0, srcT_1, srcT_2, srcT_p0, srcT_p2, exitF_1, exitF_0, exitK_eq, decide_eq_true_eq, Nat.zero_add, if_f, eq_self, true_and, and_true, bLen_scr, bLen_lst, bLen_tup, bTuple_lst, bTuple_tup, bAny_b, bAll_b, bSortedSet_i, bSortedSetX_i, oEq_ii]
    first | exact sat_of (exitF_len rfl) rfl | (rw [exitF_len rfl, sat_ok])
theorem law_true (ns : List Int) (hl : ns.length ≤ 63) : ∃ m, m_law [.scr ns] (tfs.map .tab) = .ok (.bl true) m := by
  obtain ⟨b, m, e, h⟩ := (ok_law ns hl).ex
  exact ⟨m, by rw [← h]; exact e⟩
end Wk
namespace Wk
open PySem PySem.Spec L2 L3 WkH
open PyProof.Rows hiding St
theorem facts {P : Program} {w : World} {K : PySem.W.Frag} {h : Heap} {mg : Str → Option Value} {f : Addr} (X : K.In h) (G : h.Ns mainGlobals mg) (hfa : mg ("law" : Str) = some (.ref f)) (cp : He.SaysP fa fn ex ap K) :
    ∃ fd : FuncData, (∀ (s : Shared) (v : Value), BindsTo s fd ⟨[v], []⟩ [("_law_script", v)]) ∧ ∀ base : Heap, K.In base → base.Ns mainGlobals mg → (∀ p ∈ tfs, LamX.TabB base mg (He.cT K p.2).1 (He.cT K p.2).2) → FnG P w K mg base CX0 27 f fd ["_law_script"] 1 m_law := by
  have cx := cp.e
  have c := cx.d
  have T : Txt K mg := { k_Pool := He.cls_ok (c.fact 34 (f := .cls "Pool") rfl), k_Trial := He.cls_ok (c.fact 35 (f := .cls "Trial") rfl), f_KeyError := He.free_ok X G (c.fact 36 (f := .free "KeyError") rfl), f_abs := He.free_ok X G (c.fact 37 (f := .free "abs") rfl), f_all := He.free_ok X G (c.fact 38 (f := .free "all") rfl), f_bool := He.free_ok X G (c.fact 39 (f := .free "bool") rfl), f_int := He.free_ok X G (c.fact 40 (f := .free "int") rfl), f_isinstance := He.free_ok X G (c.fact 41 (f := .free "isinstance") rfl), f_len := He.free_ok X G (c.fact 42 (f := .free "len") rfl), f_list := He.free_ok X G (c.fact 43 (f := .free "list") rfl), f_max := He.free_ok X G (c.fact 44 (f := .free "max") rfl), f_min := He.free_ok X G (c.fact 45 (f := .free "min") rfl), f_range := He.free_ok X G (c.fact 46 (f := .free "range") rfl), f_repr := He.free_ok X G (c.fact 47 (f := .free "repr") rfl), f_sum := He.free_ok X G (c.fact 48 (f := .free "sum") rfl), f_tuple := He.free_ok X G (c.fact 49 (f := .free "tuple") rfl), g_BadPlan := He.glo_ok X G (c.fact 50 (f := .glo "BadPlan") rfl), g_BadSize := He.glo_ok X G (c.fact 51 (f := .glo "BadSize") rfl), g_NoThread := He.glo_ok X G (c.fact 52 (f := .glo "NoThread") rfl), g_NothingToUndo := He.glo_ok X G (c.fact 53 (f := .glo "NothingToUndo") rfl), g_PermitError := He.glo_ok X G (c.fact 54 (f := .glo "PermitError") rfl), g_Pool := He.glo_ok X G (c.fact 24 (f := .glo "Pool") rfl), g_TooMany := He.glo_ok X G (c.fact 55 (f := .glo "TooMany") rfl), g_Unsafe := He.glo_ok X G (c.fact 56 (f := .glo "Unsafe") rfl), g_Waiting := He.glo_ok X G (c.fact 57 (f := .glo "Waiting") rfl), c_MOST_SIZE := He.int_ok X G (c.fact 58 (f := .int "MOST_SIZE" 1000000000000000000000000000000) rfl), c_MOST_TAKES := He.int_ok X G (c.fact 59 (f := .int "MOST_TAKES" 6) rfl), c_MOST_TOTAL := He.int_ok X G (c.fact 60 (f := .int "MOST_TOTAL" 120) rfl), n_Pool_is_careful := He.noat_ok (c.fact 61 (f := .noat "Pool" "is_careful") rfl), n_Pool_past := He.noat_ok (c.fact 62 (f := .noat "Pool" "past") rfl), n_Pool_present := He.noat_ok (c.fact 63 (f := .noat "Pool" "present") rfl), n_Pool_whole := He.noat_ok (c.fact 64 (f := .noat "Pool" "whole") rfl), n_Trial_past := He.noat_ok (c.fact 65 (f := .noat "Trial" "past") rfl), n_Trial_pool := He.noat_ok (c.fact 66 (f := .noat "Trial" "pool") rfl), n_Trial_present := He.noat_ok (c.fact 67 (f := .noat "Trial" "present") rfl), err := (He.ba (He.ba (He.ba cx.x).1).1).1, err2 := (He.ba (He.ba (He.ba cx.x).1).1).2, cc_Pool_MOST_THREADS := He.pool_co (He.ba (He.ba cx.x).1).2 (q := ("Pool", "MOST_THREADS", 200)) (by decide) (He.glo_ok X G (c.fact 24 (f := .glo "Pool") rfl)), noke := He.ke_ok (He.ba cx.x).2 }
  obtain ⟨fd0, F0⟩ := c.def_ 0 (d := d_Lstart) rfl
  obtain ⟨fd1, F1⟩ := c.def_ 1 (d := d_Trial_enter) rfl
  obtain ⟨fd2, F2⟩ := c.def_ 2 (d := d_Trial_init) rfl
  obtain ⟨fd3, F3⟩ := c.def_ 3 (d := d_Trial_exit) rfl
  obtain ⟨fd4, F4⟩ := c.def_ 4 (d := d_rehearsed) rfl
  obtain ⟨fd5, F5⟩ := c.def_ 5 (d := d_Ldraw) rfl
  obtain ⟨fd6, F6⟩ := c.def_ 6 (d := d_Lchoice) rfl
  obtain ⟨fd7, F7⟩ := c.def_ 7 (d := d_Lplan) rfl
  obtain ⟨fd8, F8⟩ := c.def_ 8 (d := d_is_integer) rfl
  obtain ⟨fd9, F9⟩ := c.def_ 9 (d := d_is_between) rfl
  obtain ⟨fd10, F10⟩ := c.def_ 10 (d := d_is_plan) rfl
  obtain ⟨fd11, F11⟩ := c.def_ 11 (d := d_BadPlan_init) rfl
  obtain ⟨fd12, F12⟩ := c.def_ 12 (d := d_check_plan) rfl
  obtain ⟨fd13, F13⟩ := c.def_ 13 (d := d_Pool_go_on) rfl
  obtain ⟨fd14, F14⟩ := c.def_ 14 (d := d_TooMany_init) rfl
  obtain ⟨fd15, F15⟩ := c.def_ 15 (d := d_Pool_begin) rfl
  obtain ⟨fd16, F16⟩ := c.def_ 16 (d := d_NothingToUndo_init) rfl
  obtain ⟨fd17, F17⟩ := c.def_ 17 (d := d_Pool_undo) rfl
  obtain ⟨fd18, F18⟩ := c.def_ 18 (d := d_lost_among) rfl
  obtain ⟨fd19, F19⟩ := cp.ap_ 0 (He.ba (He.ba (He.ba (He.ba cx.x).1).2).2).2 (d := a_Pool_free) rfl
  obtain ⟨fd20, F20⟩ := c.def_ 19 (d := d_Waiting_init) rfl
  obtain ⟨fd21, F21⟩ := c.def_ 20 (d := d_NoThread_init) rfl
  obtain ⟨fd22, F22⟩ := c.def_ 21 (d := d_Pool_taken) rfl
  obtain ⟨fd23, F23⟩ := c.def_ 22 (d := d_Unsafe_init) rfl
  obtain ⟨fd24, F24⟩ := c.def_ 23 (d := d_Pool_take) rfl
  obtain ⟨fd25, F25⟩ := c.def_ 24 (d := d_Lsome_calls) rfl
  obtain ⟨fd26, F26⟩ := c.def_ 25 (d := d_Pool_steps) rfl
  obtain ⟨fd27, F27⟩ := c.def_ 26 (d := d_Pool_unfinished) rfl
  obtain ⟨fd28, F28⟩ := c.def_ 27 (d := d_Laction) rfl
  obtain ⟨fd29, F29⟩ := c.def_ 28 (d := d_BadSize_init) rfl
  obtain ⟨fd30, F30⟩ := c.def_ 29 (d := d_check_size) rfl
  obtain ⟨fd31, F31⟩ := c.def_ 30 (d := d_Pool_init) rfl
  obtain ⟨fd32, F32⟩ := c.def_ 31 (d := d_Pool_copy) rfl
  obtain ⟨fd33, F33⟩ := c.def_ 32 (d := d_Pool_started) rfl
  obtain ⟨fd34, F34⟩ := c.def_ 33 (d := d_Pool_lost) rfl
  obtain ⟨fd35, F35⟩ := c.def_ 34 (d := d_Pool_len) rfl
  obtain ⟨fd36, F36⟩ := c.def_ 35 (d := d_Lseen) rfl
  obtain ⟨fd37, F37⟩ := c.def_ 36 (d := d_Ltrial_right) rfl
  obtain ⟨fd38, F38⟩ := c.def_ 37 (d := d_Lright) rfl
  obtain ⟨fd39, F39⟩ := c.def_ 38 (d := d_law) rfl
  have e := hfa.symm.trans (He.glo_ok X G (c.fact 33 (f := .glo "law") rfl))
  cases e
  have bL := FunD.bindsA (ps := ["_law_script"]) F39 fun _ _ _ _ _ _ us hl => match us, hl with | [_], _ => rfl
  refine ⟨fd39, fun s v => bL s [v] rfl, fun base _ _ tbs => ?_⟩
  have C_Lstart : Cal P w K mg base (L2.CX P w) 1 "_law_start" 2 m_Lstart := ⟨_, _, _, fnOk_of F0 sc_Lstart exitK_ok (w_Lstart T), He.glo_ok X G (c.fact 0 (f := .glo "_law_start") rfl), F0.kp, F0.bindsN fun _ _ _ _ _ _ us hl => match us, hl with | [_, _], _ => rfl⟩
  have C_Trial_enter : CalM P w K mg base (L2.CX P w) 1 "Trial" "__enter__" 1 m_Trial_enter := ⟨_, _, _, fnOk_of F1 sc_Trial_enter exitK_ok (w_Trial_enter T), He.meth_ok (c.fact 1 (f := .meth "Trial" "__enter__") rfl), He.cls_ok (c.fact 35 (f := .cls "Trial") rfl), F1.bindsN fun _ _ _ _ _ _ us hl => match us, hl with | [_], _ => rfl⟩
  have I_Trial : CalI P w K mg base (L2.CX P w) 1 "Trial" 2 m_Trial_init := ⟨_, _, _, fnOk_of F2 sc_Trial_init exitK_ok (w_Trial_init T), He.mkr_ok (c.fact 3 (f := .mkr "Trial") rfl), He.glo_ok X G (c.fact 2 (f := .glo "Trial") rfl), F2.bindsN fun _ _ _ _ _ _ us hl => match us, hl with | [_, _], _ => rfl⟩
  have CW_Trial_exit : CalW P w K mg base (L2.CX P w) 1 "Trial" "__exit__" m_Trial_exit := ⟨_, _, _, fnOk_ofW F3 sc_Trial_exit exitK_ok rfl (by decide) (w_Trial_exit T), fnM_ofW F3 sc_Trial_exit exitK_ok rfl (by decide) (wm_Trial_exit T), He.meth_ok (c.fact 4 (f := .meth "Trial" "__exit__") rfl), He.cls_ok (c.fact 35 (f := .cls "Trial") rfl), F3.bindsN fun _ _ _ _ _ _ us hl => match us, hl with | [_, _, _, _], _ => rfl⟩
  have T_rehearsed : CalR P w K mg base 2 "rehearsed" m_rehearsed := calR_of F4 sc_rehearsed (He.glo_ok X G (c.fact 5 (f := .glo "rehearsed") rfl)) (F4.bindsN fun _ _ _ _ _ _ us hl => match us, hl with | [_, _], _ => rfl) (fun s u0 u1 => L3.FunD.bindsK (n := 0) (pm := [1, 0]) F4 ["action", "pool"] (fun _ _ _ _ _ _ us ws h1 h2 => match us, h1, ws, h2 with | [], _, [_, _], _ => rfl) s [] [u1, u0] rfl rfl) rfl (.inl rfl) (w_rehearsed T I_Trial C_Trial_enter CW_Trial_exit)
  have C_Ldraw : Cal P w K mg base (L2.CX P w) 1 "_law_draw" 2 m_Ldraw := ⟨_, _, _, fnOk_of F5 sc_Ldraw exitF_ok (w_Ldraw T), He.glo_ok X G (c.fact 6 (f := .glo "_law_draw") rfl), F5.kp, F5.bindsN fun _ _ _ _ _ _ us hl => match us, hl with | [_, _], _ => rfl⟩
  have C_Lchoice : Cal P w K mg base (L2.CX P w) 2 "_law_choice" 2 m_Lchoice := ⟨_, _, _, fnOk_of F6 sc_Lchoice exitF_ok (w_Lchoice T C_Ldraw), He.glo_ok X G (c.fact 7 (f := .glo "_law_choice") rfl), F6.kp, F6.bindsN fun _ _ _ _ _ _ us hl => match us, hl with | [_, _], _ => rfl⟩
  have C_Lplan : Cal P w K mg base (L2.CX P w) 3 "_law_plan" 2 m_Lplan := ⟨_, _, _, fnOk_of F7 sc_Lplan exitF_ok (w_Lplan T C_Ldraw C_Lchoice), He.glo_ok X G (c.fact 8 (f := .glo "_law_plan") rfl), F7.kp, F7.bindsN fun _ _ _ _ _ _ us hl => match us, hl with | [_, _], _ => rfl⟩
  have C_is_integer : Cal P w K mg base (L2.CX P w) 1 "is_integer" 1 m_is_integer := ⟨_, _, _, fnOk_of F8 sc_is_integer exitF_ok (w_is_integer T), He.glo_ok X G (c.fact 9 (f := .glo "is_integer") rfl), F8.kp, F8.bindsN fun _ _ _ _ _ _ us hl => match us, hl with | [_], _ => rfl⟩
  have C_is_between : Cal P w K mg base (L2.CX P w) 2 "is_between" 3 m_is_between := ⟨_, _, _, fnOk_of F9 sc_is_between exitF_ok (w_is_between T C_is_integer), He.glo_ok X G (c.fact 10 (f := .glo "is_between") rfl), F9.kp, F9.bindsN fun _ _ _ _ _ _ us hl => match us, hl with | [_, _, _], _ => rfl⟩
  have C_is_plan : Cal P w K mg base (L2.CX P w) 3 "is_plan" 1 m_is_plan := ⟨_, _, _, fnOk_of F10 sc_is_plan exitF_ok (w_is_plan T C_is_between), He.glo_ok X G (c.fact 11 (f := .glo "is_plan") rfl), F10.kp, F10.bindsN fun _ _ _ _ _ _ us hl => match us, hl with | [_], _ => rfl⟩
  have M_BadPlan : CalEM P w K mg base (L2.CX P w) 1 "BadPlan" "value" "value" := ⟨_, _, _, e_BadPlan T F11, (err_cls T.err (c := "BadPlan") (f := "value") (by decide)).1, (err_cls T.err (c := "BadPlan") (f := "value") (by decide)).2.1, (err_cls T.err (c := "BadPlan") (f := "value") (by decide)).2.2.1, (err_cls T.err (c := "BadPlan") (f := "value") (by decide)).2.2.2, He.glo_ok X G (c.fact 50 (f := .glo "BadPlan") rfl), (F11.bindsN fun _ _ _ _ _ _ us hl => match us, hl with | [_, _], _ => rfl), fun s u1 u2 _ => L3.FunD.bindsK (n := 1) (pm := [0, 1]) F11 ["value"] (fun _ _ _ _ _ _ us ws h1 h2 => match us, h1, ws, h2 with | [_], _, [_], _ => rfl) s [u1] [u2] rfl rfl⟩
  have E_BadPlan : CalE P w K mg base (L2.CX P w) 1 "BadPlan" "value" := ⟨_, _, _, e_BadPlan T F11, (err_cls T.err (c := "BadPlan") (f := "value") (by decide)).1, (err_cls T.err (c := "BadPlan") (f := "value") (by decide)).2.1, (err_cls T.err (c := "BadPlan") (f := "value") (by decide)).2.2.1, (err_cls T.err (c := "BadPlan") (f := "value") (by decide)).2.2.2, He.glo_ok X G (c.fact 50 (f := .glo "BadPlan") rfl), F11.bindsN fun _ _ _ _ _ _ us hl => match us, hl with | [_, _], _ => rfl⟩
  have C_check_plan : Cal P w K mg base (L2.CX P w) 4 "check_plan" 1 m_check_plan := ⟨_, _, _, fnOk_of F12 sc_check_plan exitF_ok (w_check_plan T C_is_plan E_BadPlan), He.glo_ok X G (c.fact 12 (f := .glo "check_plan") rfl), F12.kp, F12.bindsN fun _ _ _ _ _ _ us hl => match us, hl with | [_], _ => rfl⟩
  have C_Pool_go_on : CalM P w K mg base (L2.CX P w) 1 "Pool" "go_on" 3 m_Pool_go_on := ⟨_, _, _, fnOk_of F13 sc_Pool_go_on exitF_ok (w_Pool_go_on T), He.meth_ok (c.fact 13 (f := .meth "Pool" "go_on") rfl), He.cls_ok (c.fact 34 (f := .cls "Pool") rfl), F13.bindsN fun _ _ _ _ _ _ us hl => match us, hl with | [_, _, _], _ => rfl⟩
  have M_TooMany : CalEM P w K mg base (L2.CX P w) 1 "TooMany" "count" "count" := ⟨_, _, _, e_TooMany T F14, (err_cls T.err (c := "TooMany") (f := "count") (by decide)).1, (err_cls T.err (c := "TooMany") (f := "count") (by decide)).2.1, (err_cls T.err (c := "TooMany") (f := "count") (by decide)).2.2.1, (err_cls T.err (c := "TooMany") (f := "count") (by decide)).2.2.2, He.glo_ok X G (c.fact 55 (f := .glo "TooMany") rfl), (F14.bindsN fun _ _ _ _ _ _ us hl => match us, hl with | [_, _], _ => rfl), fun s u1 u2 _ => L3.FunD.bindsK (n := 1) (pm := [0, 1]) F14 ["count"] (fun _ _ _ _ _ _ us ws h1 h2 => match us, h1, ws, h2 with | [_], _, [_], _ => rfl) s [u1] [u2] rfl rfl⟩
  have E_TooMany : CalE P w K mg base (L2.CX P w) 1 "TooMany" "count" := ⟨_, _, _, e_TooMany T F14, (err_cls T.err (c := "TooMany") (f := "count") (by decide)).1, (err_cls T.err (c := "TooMany") (f := "count") (by decide)).2.1, (err_cls T.err (c := "TooMany") (f := "count") (by decide)).2.2.1, (err_cls T.err (c := "TooMany") (f := "count") (by decide)).2.2.2, He.glo_ok X G (c.fact 55 (f := .glo "TooMany") rfl), F14.bindsN fun _ _ _ _ _ _ us hl => match us, hl with | [_, _], _ => rfl⟩
  have C_Pool_begin : CalM P w K mg base (L2.CX P w) 5 "Pool" "begin" 2 m_Pool_begin := ⟨_, _, _, fnOk_of F15 sc_Pool_begin exitF_ok (w_Pool_begin T C_check_plan C_Pool_go_on E_TooMany), He.meth_ok (c.fact 14 (f := .meth "Pool" "begin") rfl), He.cls_ok (c.fact 34 (f := .cls "Pool") rfl), F15.bindsN fun _ _ _ _ _ _ us hl => match us, hl with | [_, _], _ => rfl⟩
  have Z_NothingToUndo : CalE0 P w K mg base (L2.CX P w) 1 "NothingToUndo" := ⟨_, _, _, e_NothingToUndo T F16, (err_cls0 T.err2 (c := "NothingToUndo") (by decide)).1, (err_cls0 T.err2 (c := "NothingToUndo") (by decide)).2.1, (err_cls0 T.err2 (c := "NothingToUndo") (by decide)).2.2, He.glo_ok X G (c.fact 53 (f := .glo "NothingToUndo") rfl), F16.bindsN fun _ _ _ _ _ _ us hl => match us, hl with | [_], _ => rfl⟩
  have C_Pool_undo : CalM P w K mg base (L2.CX P w) 3 "Pool" "undo" 1 m_Pool_undo := ⟨_, _, _, fnOk_of F17 sc_Pool_undo exitF_ok (w_Pool_undo T Z_NothingToUndo), He.meth_ok (c.fact 15 (f := .meth "Pool" "undo") rfl), He.cls_ok (c.fact 34 (f := .cls "Pool") rfl), F17.bindsN fun _ _ _ _ _ _ us hl => match us, hl with | [_], _ => rfl⟩
  have C_lost_among : Cal P w K mg base (L2.CX P w) 1 "lost_among" 2 m_lost_among := ⟨_, _, _, fnOk_of F18 sc_lost_among exitF_ok (w_lost_among T), He.glo_ok X G (c.fact 16 (f := .glo "lost_among") rfl), F18.kp, F18.bindsN fun _ _ _ _ _ _ us hl => match us, hl with | [_, _], _ => rfl⟩
  have P_Pool_free : CalP P w K mg base (L2.CX P w) 1 "Pool" "free" m_Pool_free := ⟨_, _, _, _, fnOk_of F19 sc_Pool_free exitF_ok (w_Pool_free T), He.pool_pr (He.ba (He.ba cx.x).1).2 (q := ("Pool", "free")) (by decide), He.cls_ok (c.fact 34 (f := .cls "Pool") rfl), F19.bindsN fun _ _ _ _ _ _ us hl => match us, hl with | [_], _ => rfl⟩
  have M_Waiting : CalEM P w K mg base (L2.CX P w) 1 "Waiting" "left" "left" := ⟨_, _, _, e_Waiting T F20, (err_cls T.err (c := "Waiting") (f := "left") (by decide)).1, (err_cls T.err (c := "Waiting") (f := "left") (by decide)).2.1, (err_cls T.err (c := "Waiting") (f := "left") (by decide)).2.2.1, (err_cls T.err (c := "Waiting") (f := "left") (by decide)).2.2.2, He.glo_ok X G (c.fact 57 (f := .glo "Waiting") rfl), (F20.bindsN fun _ _ _ _ _ _ us hl => match us, hl with | [_, _], _ => rfl), fun s u1 u2 _ => L3.FunD.bindsK (n := 1) (pm := [0, 1]) F20 ["left"] (fun _ _ _ _ _ _ us ws h1 h2 => match us, h1, ws, h2 with | [_], _, [_], _ => rfl) s [u1] [u2] rfl rfl⟩
  have E_Waiting : CalE P w K mg base (L2.CX P w) 1 "Waiting" "left" := ⟨_, _, _, e_Waiting T F20, (err_cls T.err (c := "Waiting") (f := "left") (by decide)).1, (err_cls T.err (c := "Waiting") (f := "left") (by decide)).2.1, (err_cls T.err (c := "Waiting") (f := "left") (by decide)).2.2.1, (err_cls T.err (c := "Waiting") (f := "left") (by decide)).2.2.2, He.glo_ok X G (c.fact 57 (f := .glo "Waiting") rfl), F20.bindsN fun _ _ _ _ _ _ us hl => match us, hl with | [_, _], _ => rfl⟩
  have M_NoThread : CalEM P w K mg base (L2.CX P w) 1 "NoThread" "value" "value" := ⟨_, _, _, e_NoThread T F21, (err_cls T.err (c := "NoThread") (f := "value") (by decide)).1, (err_cls T.err (c := "NoThread") (f := "value") (by decide)).2.1, (err_cls T.err (c := "NoThread") (f := "value") (by decide)).2.2.1, (err_cls T.err (c := "NoThread") (f := "value") (by decide)).2.2.2, He.glo_ok X G (c.fact 52 (f := .glo "NoThread") rfl), (F21.bindsN fun _ _ _ _ _ _ us hl => match us, hl with | [_, _], _ => rfl), fun s u1 u2 _ => L3.FunD.bindsK (n := 1) (pm := [0, 1]) F21 ["value"] (fun _ _ _ _ _ _ us ws h1 h2 => match us, h1, ws, h2 with | [_], _, [_], _ => rfl) s [u1] [u2] rfl rfl⟩
  have E_NoThread : CalE P w K mg base (L2.CX P w) 1 "NoThread" "value" := ⟨_, _, _, e_NoThread T F21, (err_cls T.err (c := "NoThread") (f := "value") (by decide)).1, (err_cls T.err (c := "NoThread") (f := "value") (by decide)).2.1, (err_cls T.err (c := "NoThread") (f := "value") (by decide)).2.2.1, (err_cls T.err (c := "NoThread") (f := "value") (by decide)).2.2.2, He.glo_ok X G (c.fact 52 (f := .glo "NoThread") rfl), F21.bindsN fun _ _ _ _ _ _ us hl => match us, hl with | [_, _], _ => rfl⟩
  have C_Pool_taken : CalM P w K mg base (L2.CX P w) 3 "Pool" "taken" 2 m_Pool_taken := ⟨_, _, _, fnOk_of F22 sc_Pool_taken exitF_ok (w_Pool_taken T C_is_between P_Pool_free E_Waiting E_NoThread), He.meth_ok (c.fact 17 (f := .meth "Pool" "taken") rfl), He.cls_ok (c.fact 34 (f := .cls "Pool") rfl), F22.bindsN fun _ _ _ _ _ _ us hl => match us, hl with | [_, _], _ => rfl⟩
  have M_Unsafe : CalEM P w K mg base (L2.CX P w) 1 "Unsafe" "threads" "threads" := ⟨_, _, _, e_Unsafe T F23, (err_cls T.err (c := "Unsafe") (f := "threads") (by decide)).1, (err_cls T.err (c := "Unsafe") (f := "threads") (by decide)).2.1, (err_cls T.err (c := "Unsafe") (f := "threads") (by decide)).2.2.1, (err_cls T.err (c := "Unsafe") (f := "threads") (by decide)).2.2.2, He.glo_ok X G (c.fact 56 (f := .glo "Unsafe") rfl), (F23.bindsN fun _ _ _ _ _ _ us hl => match us, hl with | [_, _], _ => rfl), fun s u1 u2 _ => L3.FunD.bindsK (n := 1) (pm := [0, 1]) F23 ["threads"] (fun _ _ _ _ _ _ us ws h1 h2 => match us, h1, ws, h2 with | [_], _, [_], _ => rfl) s [u1] [u2] rfl rfl⟩
  have E_Unsafe : CalE P w K mg base (L2.CX P w) 1 "Unsafe" "threads" := ⟨_, _, _, e_Unsafe T F23, (err_cls T.err (c := "Unsafe") (f := "threads") (by decide)).1, (err_cls T.err (c := "Unsafe") (f := "threads") (by decide)).2.1, (err_cls T.err (c := "Unsafe") (f := "threads") (by decide)).2.2.1, (err_cls T.err (c := "Unsafe") (f := "threads") (by decide)).2.2.2, He.glo_ok X G (c.fact 56 (f := .glo "Unsafe") rfl), F23.bindsN fun _ _ _ _ _ _ us hl => match us, hl with | [_, _], _ => rfl⟩
  have C_Pool_take : CalM P w K mg base (L2.CX P w) 4 "Pool" "take" 2 m_Pool_take := ⟨_, _, _, fnOk_of F24 sc_Pool_take exitF_ok (w_Pool_take T C_lost_among C_Pool_taken C_Pool_go_on E_Unsafe), He.meth_ok (c.fact 18 (f := .meth "Pool" "take") rfl), He.cls_ok (c.fact 34 (f := .cls "Pool") rfl), F24.bindsN fun _ _ _ _ _ _ us hl => match us, hl with | [_, _], _ => rfl⟩
  have C_Lsome_calls : Cal P w K mg base (L2.CX P w) 6 "_law_some_calls" 3 m_Lsome_calls := ⟨_, _, _, fnOk_of F25 sc_Lsome_calls exitF_ok (w_Lsome_calls T C_Ldraw C_Lplan C_Pool_begin C_Pool_undo C_Pool_take), He.glo_ok X G (c.fact 19 (f := .glo "_law_some_calls") rfl), F25.kp, F25.bindsN fun _ _ _ _ _ _ us hl => match us, hl with | [_, _, _], _ => rfl⟩
  have C_Pool_steps : CalM P w K mg base (L2.CX P w) 1 "Pool" "steps" 1 m_Pool_steps := ⟨_, _, _, fnOk_of F26 sc_Pool_steps exitF_ok (w_Pool_steps T), He.meth_ok (c.fact 20 (f := .meth "Pool" "steps") rfl), He.cls_ok (c.fact 34 (f := .cls "Pool") rfl), F26.bindsN fun _ _ _ _ _ _ us hl => match us, hl with | [_], _ => rfl⟩
  have C_Pool_unfinished : CalM P w K mg base (L2.CX P w) 1 "Pool" "unfinished" 1 m_Pool_unfinished := ⟨_, _, _, fnOk_of F27 sc_Pool_unfinished exitF_ok (w_Pool_unfinished T), He.meth_ok (c.fact 21 (f := .meth "Pool" "unfinished") rfl), He.cls_ok (c.fact 34 (f := .cls "Pool") rfl), F27.bindsN fun _ _ _ _ _ _ us hl => match us, hl with | [_], _ => rfl⟩
  have M_BadSize : CalEM P w K mg base (L2.CX P w) 1 "BadSize" "value" "value" := ⟨_, _, _, e_BadSize T F29, (err_cls T.err (c := "BadSize") (f := "value") (by decide)).1, (err_cls T.err (c := "BadSize") (f := "value") (by decide)).2.1, (err_cls T.err (c := "BadSize") (f := "value") (by decide)).2.2.1, (err_cls T.err (c := "BadSize") (f := "value") (by decide)).2.2.2, He.glo_ok X G (c.fact 51 (f := .glo "BadSize") rfl), (F29.bindsN fun _ _ _ _ _ _ us hl => match us, hl with | [_, _], _ => rfl), fun s u1 u2 _ => L3.FunD.bindsK (n := 1) (pm := [0, 1]) F29 ["value"] (fun _ _ _ _ _ _ us ws h1 h2 => match us, h1, ws, h2 with | [_], _, [_], _ => rfl) s [u1] [u2] rfl rfl⟩
  have E_BadSize : CalE P w K mg base (L2.CX P w) 1 "BadSize" "value" := ⟨_, _, _, e_BadSize T F29, (err_cls T.err (c := "BadSize") (f := "value") (by decide)).1, (err_cls T.err (c := "BadSize") (f := "value") (by decide)).2.1, (err_cls T.err (c := "BadSize") (f := "value") (by decide)).2.2.1, (err_cls T.err (c := "BadSize") (f := "value") (by decide)).2.2.2, He.glo_ok X G (c.fact 51 (f := .glo "BadSize") rfl), F29.bindsN fun _ _ _ _ _ _ us hl => match us, hl with | [_, _], _ => rfl⟩
  have C_check_size : Cal P w K mg base (L2.CX P w) 3 "check_size" 1 m_check_size := ⟨_, _, _, fnOk_of F30 sc_check_size exitF_ok (w_check_size T C_is_between E_BadSize), He.glo_ok X G (c.fact 23 (f := .glo "check_size") rfl), F30.kp, F30.bindsN fun _ _ _ _ _ _ us hl => match us, hl with | [_], _ => rfl⟩
  have J_Pool : CalIK P w K mg base (L2.CX P w) 4 "Pool" 1 ["careful"] [0, 1, 2] m_Pool_init := ⟨_, _, _, fnOk_of F31 sc_Pool_init exitK_ok (w_Pool_init T C_check_size), He.mkr_ok (c.fact 25 (f := .mkr "Pool") rfl), He.glo_ok X G (c.fact 24 (f := .glo "Pool") rfl), fun s us ws _ hl1 hl2 => L3.FunD.bindsK F31 ["careful"] (fun _ _ _ _ _ _ us ws h1 h2 => match us, h1, ws, h2 with | [_, _], _, [_], _ => rfl) s us ws hl1 hl2⟩
  have C_Pool_copy : CalM P w K mg base (L2.CX P w) 6 "Pool" "copy" 1 m_Pool_copy := ⟨_, _, _, fnOk_of F32 sc_Pool_copy exitK_ok (w_Pool_copy T J_Pool), He.meth_ok (c.fact 26 (f := .meth "Pool" "copy") rfl), He.cls_ok (c.fact 34 (f := .cls "Pool") rfl), F32.bindsN fun _ _ _ _ _ _ us hl => match us, hl with | [_], _ => rfl⟩
  have C_Pool_started : CalM P w K mg base (L2.CX P w) 1 "Pool" "started" 1 m_Pool_started := ⟨_, _, _, fnOk_of F33 sc_Pool_started exitF_ok (w_Pool_started T), He.meth_ok (c.fact 27 (f := .meth "Pool" "started") rfl), He.cls_ok (c.fact 34 (f := .cls "Pool") rfl), F33.bindsN fun _ _ _ _ _ _ us hl => match us, hl with | [_], _ => rfl⟩
  have C_Pool_lost : CalM P w K mg base (L2.CX P w) 3 "Pool" "lost" 1 m_Pool_lost := ⟨_, _, _, fnOk_of F34 sc_Pool_lost exitF_ok (w_Pool_lost T C_lost_among P_Pool_free C_Pool_started), He.meth_ok (c.fact 28 (f := .meth "Pool" "lost") rfl), He.cls_ok (c.fact 34 (f := .cls "Pool") rfl), F34.bindsN fun _ _ _ _ _ _ us hl => match us, hl with | [_], _ => rfl⟩
  have C_Pool_len : CalM P w K mg base (L2.CX P w) 1 "Pool" "__len__" 1 m_Pool_len := ⟨_, _, _, fnOk_of F35 sc_Pool_len exitF_ok (w_Pool_len T), He.meth_ok (c.fact 29 (f := .meth "Pool" "__len__") rfl), He.cls_ok (c.fact 34 (f := .cls "Pool") rfl), F35.bindsN fun _ _ _ _ _ _ us hl => match us, hl with | [_], _ => rfl⟩
  have C_Lseen : Cal P w K mg base (L2.CX P w) 7 "_law_seen" 1 m_Lseen := ⟨_, _, _, fnOk_of F36 sc_Lseen exitF_ok (w_Lseen T P_Pool_free C_Pool_len C_Pool_copy C_Pool_unfinished C_Pool_steps C_Pool_lost C_Pool_undo), He.glo_ok X G (c.fact 30 (f := .glo "_law_seen") rfl), F36.kp, F36.bindsN fun _ _ _ _ _ _ us hl => match us, hl with | [_], _ => rfl⟩
  have R_Ltrial_right : ∀ n, Cal P w K mg base (L2.CX P w) (9 + 4 * n) "_law_trial_right" 3 (mr_Ltrial_right n) := by
    intro n
    induction n with
    | zero => exact ⟨_, _, _, fnOk_of (k := 8) F37 sc_Ltrial_right exitK_ok (fun _ _ _ _ _ _ _ => dss_never), He.glo_ok X G (c.fact 31 (f := .glo "_law_trial_right") rfl), F37.kp, F37.bindsN fun _ _ _ _ _ _ us hl => match us, hl with | [_, _, _], _ => rfl⟩
    | succ n ih =>
      have CA : Cal P w K mg base (L2.CX P w) (9 + 4 * n + 1) "_law_action" 4 (runF exitK N_Laction.length (g_Laction (mr_Ltrial_right n))) := ⟨_, _, _, fnOk_of F28 sc_Laction exitK_ok (w_Laction n T C_Lsome_calls C_Ldraw C_Pool_steps C_Pool_unfinished Z_NothingToUndo ih), He.glo_ok X G (c.fact 22 (f := .glo "_law_action") rfl), F28.kp, F28.bindsN fun _ _ _ _ _ _ us hl => match us, hl with | [_, _, _, _], _ => rfl⟩
      rw [show 9 + 4 * (n + 1) = (9 + 4 * n + 3) + 1 by omega]
      exact ⟨_, _, _, fnOk_ofC2 F37 sc_Ltrial_right exitK_ok (w_Ltrial_right n T C_Lseen (tbs (("_law_trial_right.<locals>.<lambda>" : Str), (("_law_trial_right" : Str), (none : Option Str))) (by decide)) T_rehearsed CA), He.glo_ok X G (c.fact 31 (f := .glo "_law_trial_right") rfl), F37.kp, F37.bindsN fun _ _ _ _ _ _ us hl => match us, hl with | [_, _, _], _ => rfl⟩
  have C_Ltrial_right : Cal P w K mg base (L2.CX P w) 25 "_law_trial_right" 3 m_Ltrial_right := R_Ltrial_right 4
  have C_Lright : CalG P w K mg base (L2.CX P w) 26 "_law_right" 1 m_Lright := ⟨_, _, _, fnG_ofC F38 sc_Lright exitF_ok (w_Lright T C_Ldraw C_Lsome_calls C_Ltrial_right J_Pool C_Pool_begin (tbs (("_law_right.<locals>.<lambda>" : Str), (("_law_right" : Str), (none : Option Str))) (by decide)) T_rehearsed), He.glo_ok X G (c.fact 32 (f := .glo "_law_right") rfl), F38.kp, F38.bindsN fun _ _ _ _ _ _ us hl => match us, hl with | [_], _ => rfl⟩
  exact fnG_of F39 sc_law exitF_ok (w_law T C_Lstart C_Lright)
end Wk
open PySem PySem.W PySem.Calls PyProof.Rows
theorem Wk_holds (hv : ∀ ns : List Int, ns.length ≤ 63 → ∃ m, Wk.m_law [.scr ns] (Wk.tfs.map .tab) = .ok (.bl true) m) : PySem.Challenge.rw_permitgaps_k55_trials.Holds := by
  w_on; o_law
  refine HandSHeadRun.head_any (r := OpenLaw.row PySem.Challenge.rw_permitgaps_k55_trials) (q := view (OpenLaw.row PySem.Challenge.rw_permitgaps_k55_trials).prog [35]) (H := WkH.hk) (ob := WkH.ob) (M := 6000) (loose := WkH.loose) (d := HandSHeadRun.topDef (OpenLaw.row PySem.Challenge.rw_permitgaps_k55_trials).prog 35) (kwd := []) WkH.ob_eq
    (by kernel_rfl) (fun s => by kernel_rfl) WkH.run (by kernel_rfl) (by kernel_rfl) (by kernel_rfl) (by rfl) (by first | assumption | decide +kernel) (by decide +kernel) ⟨rfl, rfl, rfl, rfl, rfl, by decide +kernel⟩ ?hw ?hc
  case hw => w_witness2
  case hc =>
    refine L3.law_holdsT (tf := Wk.tfs) (l := PySem.Challenge.rw_permitgaps_k55_trials) (n := 63) (k := 27) (x := "_law_script") rfl (by decide) (by kernel_rfl) ⟨rfl, by decide, by decide⟩ hv ?F
    intro w mg fa h Y G hmg0
    obtain ⟨K, KX, c⟩ := Y
    have hmg : mg ("law" : PySem.Str) = some (.ref fa) := by
      have e : (HandSHeadRun.topDef (OpenLaw.row PySem.Challenge.rw_permitgaps_k55_trials).prog 35).name = ("law" : PySem.Str) := by kernel_rfl
      rw [← e]
      exact hmg0
    obtain ⟨fd, hb, hF⟩ := Wk.facts (P := (PySem.Challenge.rw_permitgaps_k55_trials).prog) (w := w) KX G hmg c.e
    exact ⟨K, fd, KX, ⟨c.nd, fun p hp => c.hd p.2 (List.mem_map_of_mem (f := fun q : PySem.Str × PySem.Str × Option PySem.Str => q.2) hp), fun p hp => c.none p.2 (List.mem_map_of_mem (f := fun q : PySem.Str × PySem.Str × Option PySem.Str => q.2) hp), fun p hp => c.out p.2 (List.mem_map_of_mem (f := fun q : PySem.Str × PySem.Str × Option PySem.Str => q.2) hp)⟩, hb, hF⟩
theorem PySem.Challenge.cw_permitgaps_k55_trials_holds : PySem.Challenge.rw_permitgaps_k55_trials.Holds := by
  exact Wk_holds Wk.law_true
