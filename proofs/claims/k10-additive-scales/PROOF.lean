import PyProof.Rows.All
import Wide.All
import OpenK.AllK
import Wide.FinOn
import HandS.Base
import HandS.Call
import HandS.Exc
import Lean
import KE.KStateDown
import HandS.Words
import HandS.Defaults
import HandS.Head0
import HandS.Head1
import HandS.Head2
import HandS.Head3
import HandS.HeadEnd
import HandS.HeadHook1
import HandS.HeadHook2
import HandS.ForMost
import HandS.TryOnly
import HandS.ExcOwn
import HandS.Wide
import HandS.WideBits
import HandS.TupAny
import HandS.IsInst
import HandS.Gcd
import HandS.Flow
import HandS.ClsMeth
import HandS.OwnIter
import HandS.IterVal
import PyProof.WalksMore
import HandS.Zip
import HandS.Rev
import HandS.Comp
import KE.OsArith
import PySem.Challenge.RW_whosefork_k10_additive_scales
set_option Elab.async false
set_option linter.all false
set_option autoImplicit false
set_option maxRecDepth 100000
set_option maxHeartbeats 4000000
/-! Wf: the head by one kernel run, its facts by one Bool -/
namespace Wf
open PySem PySem.Spec PyProof.Rows L2
def refsT (o : Obj) : List Addr := match o.data with
  | .dict es _ => es.toList.flatMap fun e => He.refV e.val
  | .func fd => He.refV fd.code ++ (He.refV fd.defaults ++ (He.refV fd.kwdefaults ++ fd.closure.map (·.2)))
  | .cls cd => [cd.ns]
  | _ => []
/-- level by level, a tree: nothing is met twice where nothing has two names -/
def lvlT (g : Addr → Option Obj) : Nat → List Addr → List Addr
  | 0, _ => []
  | n + 1, as => as ++ lvlT g n (as.flatMap fun a => match g a with
    | some o => refsT o
    | none => [])
def asW (g : Addr → Option Obj) (n : Nat) : List Addr := lvlT g n [mainGlobals] ++ [cStatics]
def obsW (fn : List He.DefD) (ex : PySem.W.Frag → Bool) (K : PySem.W.Frag) : He.AlD := (ex K && fn.all fun d => d.ok K, fn.map fun d => He.fnW K d.at_)
def obsWG (n : Nat) (fn : List He.DefD) (ex : PySem.W.Frag → Bool) (g : Addr → Option Obj) : He.AlD := obsW fn ex (He.frG g (asW g n))
structure SaysW (fn : List He.DefD) (ex : PySem.W.Frag → Bool) (K : PySem.W.Frag) : Prop where
  eq : obsW fn ex K = (true, fn.map He.DefD.val)
def hookW (n : Nat) (fn : List He.DefD) (ex : PySem.W.Frag → Bool) : PySem.W.Hook where
  α := He.AlD
  obs := fun s => obsWG n fn ex s.heap.get?
  val := fun _ => (true, fn.map He.DefD.val)
  says := fun _ h => ∃ K : PySem.W.Frag, K.In h ∧ SaysW fn ex K
  of := fun _ _ e => ⟨_, He.frG_in, ⟨e⟩⟩
  keeps := fun _ _ _ ⟨K, hK, c⟩ k => ⟨K, PySem.W.Frag.In.keeps hK k, c⟩
theorem obsWG_eq {n : Nat} {fn : List He.DefD} {ex : PySem.W.Frag → Bool} {g : Addr → Option Obj} {s : Shared} (h : ∀ a, g a = s.heap.get? a) : obsWG n fn ex g = (hookW n fn ex).obs s := by
  have e : g = s.heap.get? := funext h
  rw [e] <;> rfl
section
variable {fn : List He.DefD} {ex : PySem.W.Frag → Bool} {K : PySem.W.Frag}
theorem SaysW.said (c : SaysW fn ex K) : ex K = true := (Bool.and_eq_true_iff.mp (show (ex K && fn.all fun d => d.ok K) = true from congrArg (fun z : He.AlD => z.1) c.eq)).1
theorem SaysW.def_ (c : SaysW fn ex K) (i : Nat) {d : He.DefD} (h : fn[i]? = some d := by rfl) : ∃ fd, FunD K d.name d.qual d.params d.body d.scope (d.dvs K) (d.kws K) (He.fAd K d.at_) fd := by
  have c2 := (Bool.and_eq_true_iff.mp (show (ex K && fn.all fun d => d.ok K) = true from congrArg (fun z : He.AlD => z.1) c.eq)).2
  have e : fn.map (fun d => He.fnW K d.at_) = fn.map He.DefD.val := congrArg (fun z : He.AlD => z.2) c.eq
  have e2 : (fn.map fun d => He.fnW K d.at_)[i]? = (fn.map He.DefD.val)[i]? := by rw [e]
  rw [List.getElem?_map, List.getElem?_map, h] at e2
  exact He.DefD.funD (Option.some.inj e2) (List.all_eq_true.mp c2 d (List.mem_of_getElem? h))
end
theorem all_at {l : List Bool} (h : l.all (fun b => b) = true) (i : Nat) {b : Bool} (e : l[i]? = some b) : b = true := List.all_eq_true.mp h b (List.mem_of_getElem? e)
theorem at_of {l : List Bool} (h : l.all (fun b => b) = true) (i : Nat) {p : Prop} [Decidable p] (e : l[i]? = some (decide p)) : p := of_decide_eq_true (all_at h i e)
/-- a value by a class's name, by a module's name -/
def cvK (K : PySem.W.Frag) (C : Addr) (f : Str) : Value := match PySem.W.findIn K (.ref C) f with
  | some (some v) => v
  | _ => .none
def gvK (K : PySem.W.Frag) (x : Str) : Value := match PySem.W.nsIn K mainGlobals x with
  | some (some v) => v
  | _ => .none
def fcB (K : PySem.W.Frag) (C : Addr) (f : Str) (v : Value) : Bool := match PySem.W.findCls K (.ref C) (.type "type") f with
  | some (.val u) => decide (u = v)
  | _ => false
theorem fcB_ok {K : PySem.W.Frag} {C : Addr} {f : Str} {v : Value} (h : fcB K C f v = true) : PySem.W.findCls K (.ref C) (.type "type") f = some (.val v) := by
  unfold fcB at h
  split at h
  · rename_i u e
    rw [e, of_decide_eq_true h]
  · cases h
theorem dflv_nil {K : PySem.W.Frag} {dV : Value} (h : DflV K dV []) : dV = .none := by
  rcases h with ⟨_, h⟩ | ⟨h, _⟩
  · exact h
  · exact absurd rfl h
theorem dflv_ne {K : PySem.W.Frag} {dV : Value} {vs : List V} (h : DflV K dV vs) (hn : vs ≠ []) : ∃ (T : Addr) (o : Obj) (its : List Value) (n : Nat), dV = .ref T ∧ K.lookup T = some o ∧ o.data = .seq its.toArray n ∧ Vals vs its := by
  rcases h with ⟨h, _⟩ | ⟨_, h⟩
  · exact absurd h hn
  · exact h
theorem kwdv_ne {K : PySem.W.Frag} {kV : Value} {kws : List (Str × V)} (h : KwdV K kV kws) (hn : kws ≠ []) : ∃ D : Addr, kV = .ref D ∧ ∀ q ∈ kws, ∃ u, PySem.W.nsIn K D q.1 = some (some u) ∧ RelV q.2 u := by
  rcases h with h | h
  · exact absurd h hn
  · exact h
end Wf

namespace Wf.L10
open PySem PySem.Spec PyProof.Rows L2 Wf
def top (i : Nat) : Stmt := PySem.Challenge.pw_whosefork_k10_additive_scales.main.body.getD i (.Pass ⟨0, 0, 0, 0⟩)
abbrev s_law : Stmt := top 60
abbrev s_Scale___init : Stmt := inClass (top 37) 1
abbrev s_law_digit : Stmt := top 49
abbrev s_law_by_amounts : Stmt := top 53
abbrev s_law_due_halves : Stmt := top 58
abbrev s_additive : Stmt := top 47
abbrev s_law_same : Stmt := top 50
abbrev s_law_push : Stmt := top 51
abbrev s_law_pushed : Stmt := top 52
abbrev s_law_halves : Stmt := top 57
abbrev s_law_adds_up : Stmt := top 59
abbrev s_idle_hands : Stmt := top 46
abbrev s_law_idle : Stmt := top 56
abbrev s_check_hands : Stmt := top 19
abbrev s_check_length : Stmt := top 21
abbrev s_check_opposite : Stmt := top 38
abbrev s_check_rising : Stmt := top 39
abbrev s_check_number : Stmt := top 20
abbrev s_law_amounts : Stmt := top 54
abbrev s_law_fits : Stmt := top 55
abbrev s_amounts_of : Stmt := top 45
abbrev s_Ratio___init : Stmt := inClass (top 31) 1
abbrev s_rest_mask : Stmt := top 28
abbrev s_with_hand : Stmt := top 27
abbrev s_has_hand : Stmt := top 26
abbrev si_Scale : Stmt := inClass (top 37) 5
def dd0 : He.DefD := ⟨("law", none), "law", "law", defArgs s_law, defBody s_law, defScope s_law, [], []⟩
def dd1 : He.DefD := ⟨("Scale", some "__init__"), "__init__", "Scale.__init__", defArgs s_Scale___init, defBody s_Scale___init, defScope s_Scale___init, [], []⟩
def dd2 : He.DefD := ⟨("_law_digit", none), "_law_digit", "_law_digit", defArgs s_law_digit, defBody s_law_digit, defScope s_law_digit, [], []⟩
def dd3 : He.DefD := ⟨("_law_by_amounts", none), "_law_by_amounts", "_law_by_amounts", defArgs s_law_by_amounts, defBody s_law_by_amounts, defScope s_law_by_amounts, [], []⟩
def dd4 : He.DefD := ⟨("_law_due_halves", none), "_law_due_halves", "_law_due_halves", defArgs s_law_due_halves, defBody s_law_due_halves, defScope s_law_due_halves, [], []⟩
def dd5 : He.DefD := ⟨("additive", none), "additive", "additive", defArgs s_additive, defBody s_additive, defScope s_additive, [], []⟩
def dd6 : He.DefD := ⟨("_law_same", none), "_law_same", "_law_same", defArgs s_law_same, defBody s_law_same, defScope s_law_same, [], []⟩
def dd7 : He.DefD := ⟨("_law_push", none), "_law_push", "_law_push", defArgs s_law_push, defBody s_law_push, defScope s_law_push, [], []⟩
def dd8 : He.DefD := ⟨("_law_pushed", none), "_law_pushed", "_law_pushed", defArgs s_law_pushed, defBody s_law_pushed, defScope s_law_pushed, [], []⟩
def dd9 : He.DefD := ⟨("_law_halves", none), "_law_halves", "_law_halves", defArgs s_law_halves, defBody s_law_halves, defScope s_law_halves, [], []⟩
def dd10 : He.DefD := ⟨("_law_adds_up", none), "_law_adds_up", "_law_adds_up", defArgs s_law_adds_up, defBody s_law_adds_up, defScope s_law_adds_up, [], []⟩
def dd11 : He.DefD := ⟨("idle_hands", none), "idle_hands", "idle_hands", defArgs s_idle_hands, defBody s_idle_hands, defScope s_idle_hands, [], []⟩
def dd12 : He.DefD := ⟨("_law_idle", none), "_law_idle", "_law_idle", defArgs s_law_idle, defBody s_law_idle, defScope s_law_idle, [], []⟩
def dd13 : He.DefD := ⟨("check_hands", none), "check_hands", "check_hands", defArgs s_check_hands, defBody s_check_hands, defScope s_check_hands, [], []⟩
def dd14 : He.DefD := ⟨("check_length", none), "check_length", "check_length", defArgs s_check_length, defBody s_check_length, defScope s_check_length, [], []⟩
def dd15 : He.DefD := ⟨("check_opposite", none), "check_opposite", "check_opposite", defArgs s_check_opposite, defBody s_check_opposite, defScope s_check_opposite, [], []⟩
def dd16 : He.DefD := ⟨("check_rising", none), "check_rising", "check_rising", defArgs s_check_rising, defBody s_check_rising, defScope s_check_rising, [], []⟩
def dd17 : He.DefD := ⟨("check_number", none), "check_number", "check_number", defArgs s_check_number, defBody s_check_number, defScope s_check_number, [], []⟩
def dd18 : He.DefD := ⟨("_law_amounts", none), "_law_amounts", "_law_amounts", defArgs s_law_amounts, defBody s_law_amounts, defScope s_law_amounts, [], []⟩
def dd19 : He.DefD := ⟨("_law_fits", none), "_law_fits", "_law_fits", defArgs s_law_fits, defBody s_law_fits, defScope s_law_fits, [], []⟩
def dd20 : He.DefD := ⟨("amounts_of", none), "amounts_of", "amounts_of", defArgs s_amounts_of, defBody s_amounts_of, defScope s_amounts_of, [], []⟩
def dd21 : He.DefD := ⟨("Ratio", some "__init__"), "__init__", "Ratio.__init__", defArgs s_Ratio___init, defBody s_Ratio___init, defScope s_Ratio___init, [(.int 1)], [("_bounded", (.bl true))]⟩
def dd22 : He.DefD := ⟨("rest_mask", none), "rest_mask", "rest_mask", defArgs s_rest_mask, defBody s_rest_mask, defScope s_rest_mask, [], []⟩
def dd23 : He.DefD := ⟨("with_hand", none), "with_hand", "with_hand", defArgs s_with_hand, defBody s_with_hand, defScope s_with_hand, [], []⟩
def dd24 : He.DefD := ⟨("has_hand", none), "has_hand", "has_hand", defArgs s_has_hand, defBody s_has_hand, defScope s_has_hand, [], []⟩
def ddIC0 : He.DefD := ⟨("Scale", some "__iter__"), "__iter__", "Scale.__iter__", defArgs si_Scale, defBody si_Scale, defScope si_Scale, [], []⟩
def dfn : List He.DefD := [dd0, dd1, dd2, dd3, dd4, dd5, dd6, dd7, dd8, dd9, dd10, dd11, dd12, dd13, dd14, dd15, dd16, dd17, dd18, dd19, dd20, dd21, dd22, dd23, dd24, ddIC0]
def ex0 (K : PySem.W.Frag) : List Bool := [
decide (PySem.W.nsIn K mainGlobals "Scale" = some (some (.ref (He.ga K "Scale")))),
  decide (PySem.W.nsIn K mainGlobals "Ratio" = some (some (.ref (He.ga K "Ratio")))),
  decide (PySem.W.nsIn K mainGlobals "law" = some (some (.ref (He.ga K "law")))),
  decide (PySem.W.keepIn K (.ref (He.ga K "law")) = true),
  decide (PySem.W.findIn K (.ref (He.ga K "Scale")) "__init__" = some (some (.ref (He.ma K (He.ga K "Scale") "__init__")))),
  decide (PySem.W.isFn K (.ref (He.ma K (He.ga K "Scale") "__init__")) = true),
  decide (PySem.W.nsIn K mainGlobals "_law_digit" = some (some (.ref (He.ga K "_law_digit")))),
  decide (PySem.W.keepIn K (.ref (He.ga K "_law_digit")) = true),
  decide (PySem.W.nsIn K mainGlobals "_law_by_amounts" = some (some (.ref (He.ga K "_law_by_amounts")))),
  decide (PySem.W.keepIn K (.ref (He.ga K "_law_by_amounts")) = true),
  decide (PySem.W.nsIn K mainGlobals "_law_due_halves" = some (some (.ref (He.ga K "_law_due_halves")))),
  decide (PySem.W.keepIn K (.ref (He.ga K "_law_due_halves")) = true),
  decide (PySem.W.nsIn K mainGlobals "additive" = some (some (.ref (He.ga K "additive")))),
  decide (PySem.W.keepIn K (.ref (He.ga K "additive")) = true),
  decide (PySem.W.nsIn K mainGlobals "_law_same" = some (some (.ref (He.ga K "_law_same")))),
  decide (PySem.W.keepIn K (.ref (He.ga K "_law_same")) = true),
  decide (PySem.W.nsIn K mainGlobals "_law_push" = some (some (.ref (He.ga K "_law_push")))),
  decide (PySem.W.keepIn K (.ref (He.ga K "_law_push")) = true),
  decide (PySem.W.nsIn K mainGlobals "_law_pushed" = some (some (.ref (He.ga K "_law_pushed")))),
  decide (PySem.W.keepIn K (.ref (He.ga K "_law_pushed")) = true),
  decide (PySem.W.nsIn K mainGlobals "_law_halves" = some (some (.ref (He.ga K "_law_halves")))),
  decide (PySem.W.keepIn K (.ref (He.ga K "_law_halves")) = true),
  decide (PySem.W.nsIn K mainGlobals "_law_adds_up" = some (some (.ref (He.ga K "_law_adds_up")))),
  decide (PySem.W.keepIn K (.ref (He.ga K "_law_adds_up")) = true),
  decide (PySem.W.nsIn K mainGlobals "idle_hands" = some (some (.ref (He.ga K "idle_hands")))),
  decide (PySem.W.keepIn K (.ref (He.ga K "idle_hands")) = true),
  decide (PySem.W.nsIn K mainGlobals "_law_idle" = some (some (.ref (He.ga K "_law_idle")))),
  decide (PySem.W.keepIn K (.ref (He.ga K "_law_idle")) = true),
  decide (PySem.W.nsIn K mainGlobals "check_hands" = some (some (.ref (He.ga K "check_hands")))),
  decide (PySem.W.keepIn K (.ref (He.ga K "check_hands")) = true)]
def ex1 (K : PySem.W.Frag) : List Bool := [
decide (PySem.W.nsIn K mainGlobals "check_length" = some (some (.ref (He.ga K "check_length")))),
  decide (PySem.W.keepIn K (.ref (He.ga K "check_length")) = true),
  decide (PySem.W.nsIn K mainGlobals "check_opposite" = some (some (.ref (He.ga K "check_opposite")))),
  decide (PySem.W.keepIn K (.ref (He.ga K "check_opposite")) = true),
  decide (PySem.W.nsIn K mainGlobals "check_rising" = some (some (.ref (He.ga K "check_rising")))),
  decide (PySem.W.keepIn K (.ref (He.ga K "check_rising")) = true),
  decide (PySem.W.nsIn K mainGlobals "check_number" = some (some (.ref (He.ga K "check_number")))),
  decide (PySem.W.keepIn K (.ref (He.ga K "check_number")) = true),
  decide (PySem.W.nsIn K mainGlobals "_law_amounts" = some (some (.ref (He.ga K "_law_amounts")))),
  decide (PySem.W.keepIn K (.ref (He.ga K "_law_amounts")) = true),
  decide (PySem.W.nsIn K mainGlobals "_law_fits" = some (some (.ref (He.ga K "_law_fits")))),
  decide (PySem.W.keepIn K (.ref (He.ga K "_law_fits")) = true),
  decide (PySem.W.nsIn K mainGlobals "amounts_of" = some (some (.ref (He.ga K "amounts_of")))),
  decide (PySem.W.keepIn K (.ref (He.ga K "amounts_of")) = true),
  decide (PySem.W.findIn K (.ref (He.ga K "Ratio")) "__init__" = some (some (.ref (He.ma K (He.ga K "Ratio") "__init__")))),
  decide (PySem.W.isFn K (.ref (He.ma K (He.ga K "Ratio") "__init__")) = true),
  decide (PySem.W.nsIn K mainGlobals "rest_mask" = some (some (.ref (He.ga K "rest_mask")))),
  decide (PySem.W.keepIn K (.ref (He.ga K "rest_mask")) = true),
  decide (PySem.W.nsIn K mainGlobals "with_hand" = some (some (.ref (He.ga K "with_hand")))),
  decide (PySem.W.keepIn K (.ref (He.ga K "with_hand")) = true),
  decide (PySem.W.nsIn K mainGlobals "has_hand" = some (some (.ref (He.ga K "has_hand")))),
  decide (PySem.W.keepIn K (.ref (He.ga K "has_hand")) = true),
  decide (PySem.W.findIn K (.ref (He.ga K "Scale")) "__iter__" = some (some (.ref (He.ma K (He.ga K "Scale") "__iter__")))),
  decide (PySem.W.isFn K (.ref (He.ma K (He.ga K "Scale") "__iter__")) = true),
  decide (PySem.W.findIn K (.ref (He.ga K "Scale")) "__len__" = some none),
  decide (PySem.W.findIn K (.ref (He.ga K "Scale")) "__length_hint__" = some none),
  decide (PySem.W.plainGet K (He.ga K "Scale") Str.empty = true),
  decide (PySem.W.hasDictIn K (He.ga K "Scale") = true),
  decide (PySem.W.plainOver K (He.ga K "Scale") = true),
  decide (PySem.W.findIn K (.ref (He.ga K "Scale")) "__setattr__" = some (some (.builtin "object.__setattr__")))]
def ex2 (K : PySem.W.Frag) : List Bool := [
decide (PySem.W.makesIn K (He.ga K "Scale") = true),
  decide (PySem.W.keepIn K (.ref (He.ga K "Scale")) = true),
  decide (PySem.W.findIn K (.ref (He.ga K "Scale")) "hands" = some none),
  decide (PySem.W.findIn K (.ref (He.ga K "Scale")) "_numbers" = some none),
  decide (PySem.W.findIn K (.ref (He.ga K "Scale")) "__class__" = some (some (.builtin "object.__class__"))),
  decide (PySem.W.mroIn K (He.ga K "Scale") (.type "object") = some true),
  decide (PySem.W.mroIn K (He.ga K "Scale") (.type "bool") = some false),
  decide (PySem.W.mroIn K (He.ga K "Scale") (.type "int") = some false),
  decide (PySem.W.mroIn K (He.ga K "Scale") (.type "str") = some false),
  decide (PySem.W.mroIn K (He.ga K "Scale") (.type "list") = some false),
  decide (PySem.W.mroIn K (He.ga K "Scale") (.type "tuple") = some false),
  decide (PySem.W.mroIn K (He.ga K "Scale") (.ref (He.ga K "Ratio")) = some false),
  decide ((He.ga K "Scale") ≠ (He.ga K "Ratio")),
  decide (PySem.W.plainGet K (He.ga K "Ratio") Str.empty = true),
  decide (PySem.W.hasDictIn K (He.ga K "Ratio") = true),
  decide (PySem.W.plainOver K (He.ga K "Ratio") = true),
  decide (PySem.W.findIn K (.ref (He.ga K "Ratio")) "__setattr__" = some (some (.builtin "object.__setattr__"))),
  decide (PySem.W.makesIn K (He.ga K "Ratio") = true),
  decide (PySem.W.keepIn K (.ref (He.ga K "Ratio")) = true),
  decide (PySem.W.findIn K (.ref (He.ga K "Ratio")) "top" = some none),
  decide (PySem.W.findIn K (.ref (He.ga K "Ratio")) "bottom" = some none),
  decide (PySem.W.findIn K (.ref (He.ga K "Ratio")) "__class__" = some (some (.builtin "object.__class__"))),
  decide (PySem.W.mroIn K (He.ga K "Ratio") (.type "object") = some true),
  decide (PySem.W.mroIn K (He.ga K "Ratio") (.type "bool") = some false),
  decide (PySem.W.mroIn K (He.ga K "Ratio") (.type "int") = some false),
  decide (PySem.W.mroIn K (He.ga K "Ratio") (.type "str") = some false),
  decide (PySem.W.mroIn K (He.ga K "Ratio") (.type "list") = some false),
  decide (PySem.W.mroIn K (He.ga K "Ratio") (.type "tuple") = some false),
  decide (PySem.W.mroIn K (He.ga K "Ratio") (.ref (He.ga K "Scale")) = some false),
  decide ((He.ga K "Ratio") ≠ (He.ga K "Scale"))]
def ex3 (K : PySem.W.Frag) : List Bool := [
decide (PySem.W.isClsIn K (He.ga K "Scale") = true),
  decide (PySem.W.typeIn K (.ref (He.ga K "Scale")) = some (.type "type")),
  decide (PySem.W.isClsIn K (He.ga K "Ratio") = true),
  decide (PySem.W.typeIn K (.ref (He.ga K "Ratio")) = some (.type "type")),
  decide (PySem.W.specialIn K (.builtin "object.__class__") "__get__" = some (some (.builtin "getset_descriptor.__get__"))),
  decide (PySem.W.takesIn K (.builtin "object.__class__") = some true),
  decide (PySem.W.findIn K (.ref (He.ga K "Scale")) "MOST" = some (some (cvK K (He.ga K "Scale") "MOST"))),
  He.relB (L2.V.int 1000000000) (cvK K (He.ga K "Scale") "MOST"),
  decide (PySem.W.specialIn K (cvK K (He.ga K "Scale") "MOST") "__get__" = some none),
  decide (PySem.W.readsIn K (He.ga K "Scale") (.type "type") = true),
  decide (PySem.W.specialIn K (.ref (He.ga K "Scale")) "__getattribute__" = some (some (.builtin "type.__getattribute__"))),
  fcB K (He.ga K "Scale") "MOST" (cvK K (He.ga K "Scale") "MOST"),
  decide (PySem.W.nsIn K mainGlobals "MOST_HANDS" = some (some (gvK K "MOST_HANDS"))),
  He.relB (L2.V.int 7) (gvK K "MOST_HANDS"),
  decide (PySem.W.nsIn K mainGlobals "MOST_PART" = some (some (gvK K "MOST_PART"))),
  He.relB (L2.V.int 1000000000000000000000000000000000000000000000000000000000000) (gvK K "MOST_PART"),
  decide (PySem.W.nsIn K mainGlobals "isinstance" = some none),
  decide (PySem.W.nsIn K mainGlobals "range" = some none),
  decide (PySem.W.nsIn K mainGlobals "enumerate" = some none),
  decide (PySem.W.nsIn K mainGlobals "zip" = some none),
  decide (PySem.W.nsIn K mainGlobals "reversed" = some none),
  decide (PySem.W.nsIn K mainGlobals "iter" = some none),
  decide (PySem.W.nsIn K mainGlobals "list" = some none),
  decide (PySem.W.nsIn K mainGlobals "bool" = some none),
  decide (PySem.W.nsIn K mainGlobals "int" = some none),
  decide (PySem.W.nsIn K mainGlobals "str" = some none),
  decide (PySem.W.nsIn K mainGlobals "tuple" = some none),
  decide (PySem.W.nsIn K mainGlobals "dict" = some none),
  decide (PySem.W.nsIn K mainGlobals "ValueError" = some none),
  decide (PySem.W.nsIn K mainGlobals "all" = some none)]
def ex4 (K : PySem.W.Frag) : List Bool := [
decide (PySem.W.nsIn K mainGlobals "any" = some none),
  decide (PySem.W.nsIn K mainGlobals "len" = some none),
  decide (PySem.W.nsIn K mainGlobals "min" = some none),
  decide (PySem.W.nsIn K mainGlobals "sum" = some none),
  decide (PySem.W.nsIn K mainGlobals "gcd" = some (some (.builtin "math.gcd")))]
def ex (K : PySem.W.Frag) : Bool := ((ex0 K).all fun b => b) && ((ex1 K).all fun b => b) && ((ex2 K).all fun b => b) && ((ex3 K).all fun b => b) && ((ex4 K).all fun b => b)
end Wf.L10
namespace Wf.L10
open PySem PySem.W PySem.Calls PyProof.Rows Wf
abbrev R : OpenRow := OpenLaw.row PySem.Challenge.rw_whosefork_k10_additive_scales
abbrev qv : Program := view R.prog [0, 60]
def names0 : List PySem.Str := ["_wall", "__name__", "WhoseforkError", "HandError", "UnknownHand", "RepeatedHand", "LotError", "NotOpposite", "NotRising", "Clash", "BadHands", "BadLength", "BadNumber", "ZeroBottom", "HandsDiffer", "TooGreat", "MOST_HANDS", "check_hands", "check_number", "check_length", "check_hand", "check_same_hands", "mask_of", "tuple_of", "has_hand", "with_hand", "rest_mask", "MOST_PART", "Ratio", "exact"]
def names1 : List PySem.Str := ["is_fraction", "top_and_bottom", "is_less", "Scale", "check_opposite", "check_rising", "check_no_clash", "nearer", "farther", "scale_result", "amounts_of", "idle_hands", "additive", "_law_digit", "_law_same", "_law_push", "_law_pushed", "_law_by_amounts", "_law_amounts", "_law_fits", "_law_idle", "_law_halves", "_law_due_halves", "_law_adds_up"]
def names : List PySem.Str := names0 ++ names1
abbrev hk : Hook := hookW 5 dfn ex
def ob (s : SharedT) : He.AlD := obsWG 5 dfn ex (HandSHeadRun.getT s)
theorem ob_eq (s : SharedT) : ob s = hk.obs s.abs := obsWG_eq (HandSHeadRun.getT_eq s)
set_option maxHeartbeats 0 in
theorem run (w : World) : HandSHeadRun.RunEqI R qv hk ob 20000 names w := by
  unfold HandSHeadRun.RunEqI
  kernel_rfl
end Wf.L10

/-! Wf: content values, slots, what stands for what -/
namespace Wf
open PySem PySem.Spec PyProof.Rows L2

inductive D where
  | non | bl (b : Bool) | int (i : Int) | str (x : Str)
  | tup (xs : List D) | lst (xs : List D)
  | dic (kvs : List (Key × D)) | dit (kvs : List (List Key × D))
  | ins (C : Nat) (fs : List (Nat × D))
  | exc (C : Nat) (fs : List (Nat × D))
  | scr (ns : List Int)
deriving Inhabited

/-- classes and fields by number -/
structure Nm where
  cls : Nat → Option Addr
  fld : Nat → Str
  kl : Addr → List Int → Prop

structure Exn where
  C : Nat
  fs : List (Nat × D)

inductive Slot where
  | un | val (d : D) | own (d : D) | io (d : D) | lk (d : D)
deriving Inhabited
abbrev Env := List Slot

/-! ### a value v of the heap H stands for d; F: the addresses that nobody changes -/
mutual
def Rep (N : Nm) (F : Addr → Prop) (H : Hp) : D → V → Prop
  | .non, v => v = .non
  | .bl b, v => v = .bl b
  | .int i, v => v = .int i
  | .str x, v => v = .str x
  | .tup ds, v => ∃ a vs, v = .ref a ∧ F a ∧ H a = some (.tup vs) ∧ Reps N F H ds vs
  | .lst ds, v => ∃ a vs, v = .ref a ∧ F a ∧ H a = some (.lst vs) ∧ Reps N F H ds vs
  | .dic kvs, v => ∃ a vs, v = .ref a ∧ F a ∧ H a = some (.dK vs) ∧ RepK N F H kvs vs
  | .dit kvs, v => ∃ a vs, v = .ref a ∧ F a ∧ H a = some (.dT vs) ∧ RepT N F H kvs vs
  | .ins C fs, v => ∃ a Ca dx vs, v = .ref a ∧ F a ∧ N.cls C = some Ca ∧ H a = some (.ins Ca dx vs) ∧ RepF N F H fs vs
  | .exc _ _, _ => False
  | .scr ns, v => ∃ a, v = .ref a ∧ ((∃ o, F a ∧ H a = some (.frz o (.lst (ns.map V.int)))) ∨ N.kl a ns)
def Reps (N : Nm) (F : Addr → Prop) (H : Hp) : List D → List V → Prop
  | [], vs => vs = []
  | d :: ds, vs => ∃ v r, vs = v :: r ∧ Rep N F H d v ∧ Reps N F H ds r
def RepK (N : Nm) (F : Addr → Prop) (H : Hp) : List (Key × D) → List (Key × V) → Prop
  | [], vs => vs = []
  | (k, d) :: ds, vs => ∃ v r, vs = (k, v) :: r ∧ Rep N F H d v ∧ RepK N F H ds r
def RepT (N : Nm) (F : Addr → Prop) (H : Hp) : List (List Key × D) → List (List Key × V) → Prop
  | [], vs => vs = []
  | (k, d) :: ds, vs => ∃ v r, vs = (k, v) :: r ∧ Rep N F H d v ∧ RepT N F H ds r
def RepF (N : Nm) (F : Addr → Prop) (H : Hp) : List (Nat × D) → List (Str × V) → Prop
  | [], vs => vs = []
  | (k, d) :: ds, vs => ∃ v r, vs = (N.fld k, v) :: r ∧ Rep N F H d v ∧ RepF N F H ds r
end

/-- from F, H to F', H': what F held is held, unchanged -/
def Mon (F : Addr → Prop) (H : Hp) (F' : Addr → Prop) (H' : Hp) : Prop := ∀ a o, F a → H a = some o → F' a ∧ H' a = some o

section
variable {N : Nm} {F F' : Addr → Prop} {H H' : Hp}
mutual
theorem Rep.mon (m : Mon F H F' H') : ∀ (d : D) (v : V), Rep N F H d v → Rep N F' H' d v
  | .non, _, h => h
  | .bl _, _, h => h
  | .int _, _, h => h
  | .str _, _, h => h
  | .tup ds, _, ⟨a, vs, e, f, h, r⟩ => ⟨a, vs, e, (m a _ f h).1, (m a _ f h).2, Reps.mon m ds vs r⟩
  | .lst ds, _, ⟨a, vs, e, f, h, r⟩ => ⟨a, vs, e, (m a _ f h).1, (m a _ f h).2, Reps.mon m ds vs r⟩
  | .dic ds, _, ⟨a, vs, e, f, h, r⟩ => ⟨a, vs, e, (m a _ f h).1, (m a _ f h).2, RepK.mon m ds vs r⟩
  | .dit ds, _, ⟨a, vs, e, f, h, r⟩ => ⟨a, vs, e, (m a _ f h).1, (m a _ f h).2, RepT.mon m ds vs r⟩
  | .ins _ fs, _, ⟨a, Ca, dx, vs, e, f, c, h, r⟩ => ⟨a, Ca, dx, vs, e, (m a _ f h).1, c, (m a _ f h).2, RepF.mon m fs vs r⟩
  | .exc _ _, _, h => h
  | .scr _, _, ⟨a, e, h⟩ => ⟨a, e, h.imp (fun ⟨o, f, h⟩ => ⟨o, (m a _ f h).1, (m a _ f h).2⟩) _root_.id⟩
theorem Reps.mon (m : Mon F H F' H') : ∀ (ds : List D) (vs : List V), Reps N F H ds vs → Reps N F' H' ds vs
  | [], _, h => h
  | d :: ds, _, ⟨v, r, e, h, t⟩ => ⟨v, r, e, Rep.mon m d v h, Reps.mon m ds r t⟩
theorem RepK.mon (m : Mon F H F' H') : ∀ (ds : List (Key × D)) (vs : List (Key × V)), RepK N F H ds vs → RepK N F' H' ds vs
  | [], _, h => h
  | (_, d) :: ds, _, ⟨v, r, e, h, t⟩ => ⟨v, r, e, Rep.mon m d v h, RepK.mon m ds r t⟩
theorem RepT.mon (m : Mon F H F' H') : ∀ (ds : List (List Key × D)) (vs : List (List Key × V)), RepT N F H ds vs → RepT N F' H' ds vs
  | [], _, h => h
  | (_, d) :: ds, _, ⟨v, r, e, h, t⟩ => ⟨v, r, e, Rep.mon m d v h, RepT.mon m ds r t⟩
theorem RepF.mon (m : Mon F H F' H') : ∀ (ds : List (Nat × D)) (vs : List (Str × V)), RepF N F H ds vs → RepF N F' H' ds vs
  | [], _, h => h
  | (_, d) :: ds, _, ⟨v, r, e, h, t⟩ => ⟨v, r, e, Rep.mon m d v h, RepF.mon m ds r t⟩
end
theorem Reps.length : ∀ {ds : List D} {vs : List V}, Reps N F H ds vs → ds.length = vs.length
  | [], _, h => by subst h; rfl
  | _ :: ds, _, ⟨_, _, e, _, t⟩ => by subst e; simp [Reps.length t]
theorem Reps.get : ∀ {ds : List D} {vs : List V} {i : Nat} {d : D}, Reps N F H ds vs → ds[i]? = some d → ∃ v, vs[i]? = some v ∧ Rep N F H d v
  | [], _, _, _, _, h => by simp at h
  | d :: ds, _, 0, _, ⟨v, r, e, h, t⟩, q => by simp at q; subst q; subst e; exact ⟨v, rfl, h⟩
  | d :: ds, _, i + 1, _, ⟨v, r, e, h, t⟩, q => by subst e; simpa using Reps.get t (by simpa using q)
theorem Reps.getV : ∀ {ds : List D} {vs : List V} {i : Nat} {v : V}, Reps N F H ds vs → vs[i]? = some v → ∃ d, ds[i]? = some d ∧ Rep N F H d v := fun {ds vs i v} r q => by
  have hl := r.length
  have hi : i < ds.length := by rw [hl]; exact (List.getElem?_eq_some_iff.mp q).1
  obtain ⟨w, e, h⟩ := r.get (List.getElem?_eq_getElem hi)
  rw [q] at e; cases e
  exact ⟨_, List.getElem?_eq_getElem hi, h⟩
theorem Reps.append : ∀ {ds es : List D} {vs us : List V}, Reps N F H ds vs → Reps N F H es us → Reps N F H (ds ++ es) (vs ++ us)
  | [], _, _, _, h, k => by subst h; exact k
  | d :: ds, _, _, _, ⟨v, r, e, h, t⟩, k => by subst e; exact ⟨v, _, rfl, h, t.append k⟩
theorem Reps.one {d : D} {v : V} (h : Rep N F H d v) : Reps N F H [d] [v] := ⟨v, [], rfl, h, rfl⟩
theorem Reps.set : ∀ {ds : List D} {vs : List V} {d : D} {v : V} (i : Nat), Reps N F H ds vs → Rep N F H d v → Reps N F H (ds.set i d) (vs.set i v)
  | [], _, _, _, _, h, _ => by subst h; rfl
  | _ :: ds, _, _, _, 0, ⟨w, r, e, _, t⟩, k => by subst e; exact ⟨_, _, rfl, k, t⟩
  | _ :: ds, _, _, _, i + 1, ⟨w, r, e, h, t⟩, k => by subst e; exact ⟨_, _, rfl, h, t.set i k⟩
theorem Reps.take : ∀ {ds : List D} {vs : List V} (n : Nat), Reps N F H ds vs → Reps N F H (ds.take n) (vs.take n)
  | _, _, 0, _ => by rw [List.take_zero, List.take_zero]; rfl
  | [], _, _ + 1, h => by subst h; rfl
  | _ :: ds, _, n + 1, ⟨w, r, e, h, t⟩ => by subst e; exact ⟨_, _, rfl, h, t.take n⟩
theorem Reps.drop : ∀ {ds : List D} {vs : List V} (n : Nat), Reps N F H ds vs → Reps N F H (ds.drop n) (vs.drop n)
  | _, _, 0, h => h
  | [], _, _ + 1, h => by subst h; rfl
  | _ :: ds, _, n + 1, ⟨w, r, e, h, t⟩ => by subst e; exact t.drop n
theorem Reps.eraseIdx : ∀ {ds : List D} {vs : List V} (n : Nat), Reps N F H ds vs → Reps N F H (ds.eraseIdx n) (vs.eraseIdx n)
  | [], _, _, h => by subst h; rfl
  | _ :: ds, _, 0, ⟨w, r, e, h, t⟩ => by subst e; exact t
  | _ :: ds, _, n + 1, ⟨w, r, e, h, t⟩ => by subst e; exact ⟨_, _, rfl, h, t.eraseIdx n⟩
theorem Reps.reverse : ∀ {ds : List D} {vs : List V}, Reps N F H ds vs → Reps N F H ds.reverse vs.reverse
  | [], _, h => by subst h; rfl
  | _ :: ds, _, ⟨w, r, e, h, t⟩ => by subst e; rw [List.reverse_cons, List.reverse_cons]; exact t.reverse.append (.one h)
theorem Reps.ints : ∀ {ns : List Int} {vs : List V}, Reps N F H (ns.map D.int) vs ↔ vs = ns.map V.int
  | [], vs => Iff.rfl
  | n :: ns, vs => ⟨fun ⟨v, r, e, h, t⟩ => by rw [e, show v = V.int n from h, Reps.ints.mp t]; rfl, fun e => ⟨_, _, e, rfl, Reps.ints.mpr rfl⟩⟩

/-- a changeable object at a holds d -/
def ORep (N : Nm) (F : Addr → Prop) (H : Hp) (a : Addr) : D → Prop
  | .lst ds => ∃ vs, H a = some (.lst vs) ∧ Reps N F H ds vs
  | .dic kvs => ∃ vs, H a = some (.dK vs) ∧ RepK N F H kvs vs
  | .dit kvs => ∃ vs, H a = some (.dT vs) ∧ RepT N F H kvs vs
  | .ins C fs => ∃ Ca dx vs, N.cls C = some Ca ∧ H a = some (.ins Ca dx vs) ∧ RepF N F H fs vs
  | _ => False
theorem ORep.mon {a : Addr} {d : D} (m : Mon F H F' H') (hs : ∀ o, H a = some o → H' a = some o) (h : ORep N F H a d) : ORep N F' H' a d := by
  cases d <;> first | exact h.elim | skip
  · obtain ⟨vs, e, r⟩ := h; exact ⟨vs, hs _ e, Reps.mon m _ _ r⟩
  · obtain ⟨vs, e, r⟩ := h; exact ⟨vs, hs _ e, RepK.mon m _ _ r⟩
  · obtain ⟨vs, e, r⟩ := h; exact ⟨vs, hs _ e, RepT.mon m _ _ r⟩
  · obtain ⟨Ca, dx, vs, c, e, r⟩ := h; exact ⟨Ca, dx, vs, c, hs _ e, RepF.mon m _ _ r⟩
theorem ORep.there {a : Addr} {d : D} (h : ORep N F H a d) : ∃ o, H a = some o := by
  cases d <;> first | exact h.elim | skip
  · obtain ⟨vs, e, r⟩ := h; exact ⟨_, e⟩
  · obtain ⟨vs, e, r⟩ := h; exact ⟨_, e⟩
  · obtain ⟨vs, e, r⟩ := h; exact ⟨_, e⟩
  · obtain ⟨Ca, dx, vs, c, e, r⟩ := h; exact ⟨_, e⟩
/-- a changeable object that nobody changes any more -/
theorem ORep.rep {a : Addr} {d : D} (f : F a) (h : ORep N F H a d) : Rep N F H d (.ref a) := by
  cases d <;> first | exact h.elim | skip
  · obtain ⟨vs, e, r⟩ := h; exact ⟨a, vs, rfl, f, e, r⟩
  · obtain ⟨vs, e, r⟩ := h; exact ⟨a, vs, rfl, f, e, r⟩
  · obtain ⟨vs, e, r⟩ := h; exact ⟨a, vs, rfl, f, e, r⟩
  · obtain ⟨Ca, dx, vs, c, e, r⟩ := h; exact ⟨a, Ca, dx, vs, rfl, f, c, e, r⟩
/-- a value that is read: shared or changeable -/
def Rd1 (N : Nm) (F : Addr → Prop) (H : Hp) (d : D) (v : V) : Prop := Rep N F H d v ∨ ∃ a, v = .ref a ∧ ORep N F H a d
theorem Rd1.lst {ds : List D} {v : V} (h : Rd1 N F H (.lst ds) v) : ∃ a vs, v = .ref a ∧ H a = some (.lst vs) ∧ Reps N F H ds vs := by
  rcases h with ⟨a, vs, e, _, h, r⟩ | ⟨a, e, vs, h, r⟩
  · exact ⟨a, vs, e, h, r⟩
  · exact ⟨a, vs, e, h, r⟩
theorem Rd1.dic {ds : List (Key × D)} {v : V} (h : Rd1 N F H (.dic ds) v) : ∃ a vs, v = .ref a ∧ H a = some (.dK vs) ∧ RepK N F H ds vs := by
  rcases h with ⟨a, vs, e, _, h, r⟩ | ⟨a, e, vs, h, r⟩
  · exact ⟨a, vs, e, h, r⟩
  · exact ⟨a, vs, e, h, r⟩
theorem Rd1.dit {ds : List (List Key × D)} {v : V} (h : Rd1 N F H (.dit ds) v) : ∃ a vs, v = .ref a ∧ H a = some (.dT vs) ∧ RepT N F H ds vs := by
  rcases h with ⟨a, vs, e, _, h, r⟩ | ⟨a, e, vs, h, r⟩
  · exact ⟨a, vs, e, h, r⟩
  · exact ⟨a, vs, e, h, r⟩
theorem Rd1.ins {C : Nat} {fs : List (Nat × D)} {v : V} (h : Rd1 N F H (.ins C fs) v) : ∃ a Ca dx vs, v = .ref a ∧ N.cls C = some Ca ∧ H a = some (.ins Ca dx vs) ∧ RepF N F H fs vs := by
  rcases h with ⟨a, Ca, dx, vs, e, _, c, h, r⟩ | ⟨a, e, Ca, dx, vs, c, h, r⟩
  · exact ⟨a, Ca, dx, vs, e, c, h, r⟩
  · exact ⟨a, Ca, dx, vs, e, c, h, r⟩
theorem Rd1.tup {ds : List D} {v : V} (h : Rd1 N F H (.tup ds) v) : ∃ a vs, v = .ref a ∧ H a = some (.tup vs) ∧ Reps N F H ds vs := by
  rcases h with ⟨a, vs, e, _, h, r⟩ | ⟨a, e, h⟩
  · exact ⟨a, vs, e, h, r⟩
  · exact h.elim
theorem Rd1.int {i : Int} {v : V} (h : Rd1 N F H (.int i) v) : v = .int i := by
  rcases h with h | ⟨a, e, h⟩
  · exact h
  · exact h.elim
theorem Rd1.bl {i : Bool} {v : V} (h : Rd1 N F H (.bl i) v) : v = .bl i := by
  rcases h with h | ⟨a, e, h⟩
  · exact h
  · exact h.elim
theorem Rd1.str {i : Str} {v : V} (h : Rd1 N F H (.str i) v) : v = .str i := by
  rcases h with h | ⟨a, e, h⟩
  · exact h
  · exact h.elim
theorem Rd1.non {v : V} (h : Rd1 N F H .non v) : v = .non := by
  rcases h with h | ⟨a, e, h⟩
  · exact h
  · exact h.elim
end
end Wf

/-! Wf: the state of a def's run -/
namespace Wf
open PySem PySem.Spec PyProof.Rows L2
abbrev Sg := L2.St

/-- Mc: changeable things that this run must leave; H0, W0: the heap at the start, what may be changed of it; IO: the slots that others lent; Lk: changeable things that are lent for reading -/
structure Gh where
  Mc : Addr → Prop
  Lk : Addr → Prop
  H0 : Hp
  W0 : Addr → Prop
  IO : Nat → Addr → Prop

def isMut (ρ : Env) (i : Nat) : Prop := ∃ d, ρ[i]? = some (.own d) ∨ ρ[i]? = some (.io d)
def muts (σ : Sg) (ρ : Env) (a : Addr) : Prop := ∃ i, σ[i]? = some (some (.ref a)) ∧ isMut ρ i
def Frz (Mc : Addr → Prop) (σ : Sg) (ρ : Env) (a : Addr) : Prop := ¬ Mc a ∧ ¬ muts σ ρ a

def SlotOk (N : Nm) (F : Addr → Prop) (H : Hp) (Lk : Addr → Prop) (v : Option V) : Slot → Prop
  | .un => True
  | .val d => ∃ x, v = some x ∧ Rep N F H d x
  | .own d => ∃ a, v = some (.ref a) ∧ ORep N F H a d
  | .io d => ∃ a, v = some (.ref a) ∧ ORep N F H a d
  | .lk d => ∃ x, v = some x ∧ (Rep N F H d x ∨ ∃ a, x = .ref a ∧ Lk a ∧ ORep N F H a d)

structure StOk (N : Nm) (G : Gh) (σ : Sg) (H : Hp) (ρ : Env) : Prop where
  len : σ.length = ρ.length
  slot : ∀ (i : Nat) (s : Slot), ρ[i]? = some s → ∃ v, σ[i]? = some v ∧ SlotOk N (Frz G.Mc σ ρ) H G.Lk v s
  dist : ∀ (i j : Nat) (a : Addr), σ[i]? = some (some (.ref a)) → σ[j]? = some (some (.ref a)) → isMut ρ i → isMut ρ j → i = j
  mc : ∀ a, G.Mc a → H a ≠ none
  nmc : ∀ a, muts σ ρ a → ¬ G.Mc a
  fr : ∀ b o, G.H0 b = some o → ¬ G.W0 b → H b = some o
  dom : ∀ b, H b = none → G.H0 b = none
  mu : ∀ a, muts σ ρ a → G.W0 a ∨ G.H0 a = none
  lk : ∀ a, G.Lk a → H a ≠ none ∧ ¬ muts σ ρ a
  io : ∀ (k : Nat) (d : D), ρ[k]? = some (.io d) → ∃ a, G.IO k a ∧ σ[k]? = some (some (.ref a))

def Gh.at (G : Gh) (σ : Sg) (H : Hp) (ρ : Env) : Gh := { G with H0 := H, W0 := muts σ ρ }
def Gh.add (G : Gh) (M : Addr → Prop) : Gh := { G with Mc := fun a => G.Mc a ∨ M a }
abbrev noA : Addr → Prop := fun _ => False

section
variable {N : Nm} {G : Gh} {σ σ' : Sg} {H H' : Hp} {ρ ρ' : Env} {M : Addr → Prop}

theorem StOk.mutThere (S : StOk N G σ H ρ) {a : Addr} (m : muts σ ρ a) : H a ≠ none := by
  obtain ⟨i, e, d, q⟩ := m
  rcases q with q | q
  · obtain ⟨v, e', a', ev, o⟩ := S.slot i _ q
    rw [e] at e'; cases e'; cases ev
    obtain ⟨o, h⟩ := o.there; rw [h]; simp
  · obtain ⟨v, e', a', ev, o⟩ := S.slot i _ q
    rw [e] at e'; cases e'; cases ev
    obtain ⟨o, h⟩ := o.there; rw [h]; simp
theorem StOk.at (S : StOk N G σ H ρ) : StOk N (G.at σ H ρ) σ H ρ :=
  ⟨S.len, S.slot, S.dist, S.mc, S.nmc, fun _ _ h _ => h, fun _ h => h, fun _ m => .inl m, S.lk, S.io⟩
/-- less to be left -/
theorem StOk.weak {Mc' : Addr → Prop} (S : StOk N G σ H ρ) (h : ∀ a, Mc' a → G.Mc a) : StOk N { G with Mc := Mc' } σ H ρ := by
  refine ⟨S.len, fun i s e => ?_, S.dist, fun a m => S.mc a (h a m), fun a m z => S.nmc a m (h a z), S.fr, S.dom, S.mu, S.lk, S.io⟩
  have m : Mon (Frz G.Mc σ ρ) H (Frz Mc' σ ρ) H := fun a o f e => ⟨⟨fun z => f.1 (h a z), f.2⟩, e⟩
  obtain ⟨v, e1, k⟩ := S.slot i s e
  refine ⟨v, e1, ?_⟩
  cases s with
  | un => trivial
  | val d => obtain ⟨x, q, r⟩ := k; exact ⟨x, q, r.mon m⟩
  | own d => obtain ⟨x, q, r⟩ := k; exact ⟨x, q, r.mon m fun _ z => z⟩
  | io d => obtain ⟨x, q, r⟩ := k; exact ⟨x, q, r.mon m fun _ z => z⟩
  | lk d =>
    obtain ⟨x, q, r | ⟨a, ea, na, r⟩⟩ := k
    · exact ⟨x, q, .inl (r.mon m)⟩
    · exact ⟨x, q, .inr ⟨a, ea, na, r.mon m fun _ z => z⟩⟩
theorem StOk.drop (S : StOk N (G.add M) σ H ρ) : StOk N G σ H ρ := S.weak (Mc' := G.Mc) fun _ h => .inl h
/-- first to H, then on -/
theorem StOk.comp (S : StOk N G σ H ρ) (S' : StOk N ((G.at σ H ρ).add M) σ' H' ρ') : StOk N (G.add M) σ' H' ρ' := by
  refine ⟨S'.len, S'.slot, S'.dist, S'.mc, S'.nmc, fun b o h n => ?_, fun b h => S.dom b (S'.dom b h), fun a m => ?_, S'.lk, S'.io⟩
  · refine S'.fr b o (S.fr b o h n) fun z => ?_
    rcases S.mu b z with w | w
    · exact n w
    · have h' : G.H0 b = some o := h
      rw [h'] at w; cases w
  · rcases S'.mu a m with w | w
    · exact S.mu a w
    · exact .inr (S.dom a w)
theorem Gh.add_no {G : Gh} : G.add noA = G := by
  unfold Gh.add; cases G; simp
theorem StOk.comp0 (S : StOk N G σ H ρ) (S' : StOk N (G.at σ H ρ) σ' H' ρ') : StOk N G σ' H' ρ' := by
  have := StOk.comp (M := noA) S (by rw [Gh.add_no]; exact S')
  rwa [Gh.add_no] at this
/-- what stands still from H to H' -/
theorem StOk.still (S : StOk N G σ H ρ) (S' : StOk N ((G.at σ H ρ).add M) σ' H' ρ') (hM : ∀ b, M b → H b = none ∨ muts σ ρ b) : Mon (Frz G.Mc σ ρ) H (Frz (G.add M).Mc σ' ρ') H' := fun a o f e => by
  refine ⟨⟨fun z => ?_, fun z => ?_⟩, S'.fr a o e f.2⟩
  · rcases z with z | z
    · exact f.1 z
    · rcases hM a z with w | w
      · rw [e] at w; cases w
      · exact f.2 w
  · rcases S'.mu a z with w | w
    · exact f.2 w
    · have w' : H a = none := w
      rw [e] at w'; cases w'
/-- new objects -/
theorem StOk.grow (S : StOk N G σ H ρ) (h : Same H H') : StOk N G σ H' ρ := by
  have dm : ∀ b, H' b = none → H b = none := fun b e => h.free e
  refine ⟨S.len, fun i s e => ?_, S.dist, fun a m z => S.mc a m (dm a z), S.nmc, fun b o e n => h b o (S.fr b o e n), fun b e => S.dom b (dm b e), S.mu, fun a l => ⟨fun z => (S.lk a l).1 (dm a z), (S.lk a l).2⟩, S.io⟩
  have m : Mon (Frz G.Mc σ ρ) H (Frz G.Mc σ ρ) H' := fun a o f e => ⟨f, h a o e⟩
  obtain ⟨v, e1, k⟩ := S.slot i s e
  refine ⟨v, e1, ?_⟩
  cases s with
  | un => trivial
  | val d => obtain ⟨x, q, r⟩ := k; exact ⟨x, q, r.mon m⟩
  | own d => obtain ⟨x, q, r⟩ := k; exact ⟨x, q, r.mon m fun _ z => h _ _ z⟩
  | io d => obtain ⟨x, q, r⟩ := k; exact ⟨x, q, r.mon m fun _ z => h _ _ z⟩
  | lk d =>
    obtain ⟨x, q, r | ⟨a, ea, na, r⟩⟩ := k
    · exact ⟨x, q, .inl (r.mon m)⟩
    · exact ⟨x, q, .inr ⟨a, ea, na, r.mon m fun _ z => h _ _ z⟩⟩
/-- one more changeable thing that is new (or was one's own and is let go) -/
theorem StOk.owned (S : StOk N G σ H ρ) {p : Addr} (hn : H p = none) (h : Same H H') (hp : H' p ≠ none) : StOk N (G.add fun a => a = p) σ H' ρ := by
  have S1 := S.grow h
  have nm : ¬ muts σ ρ p := fun z => S.mutThere z hn
  refine ⟨S.len, fun i s e => ?_, S.dist, fun a m z => ?_, fun a m z => ?_, S1.fr, S1.dom, S.mu, S1.lk, S.io⟩
  · have m : Mon (Frz G.Mc σ ρ) H (Frz (G.add fun a => a = p).Mc σ ρ) H' := fun a o f e => by
      refine ⟨⟨fun z => ?_, f.2⟩, h a o e⟩
      rcases z with z | z
      · exact f.1 z
      · have z' : a = p := z
        subst z'; rw [hn] at e; cases e
    obtain ⟨v, e1, k⟩ := S.slot i s e
    refine ⟨v, e1, ?_⟩
    cases s with
    | un => trivial
    | val d => obtain ⟨x, q, r⟩ := k; exact ⟨x, q, r.mon m⟩
    | own d => obtain ⟨x, q, r⟩ := k; exact ⟨x, q, r.mon m fun _ z => h _ _ z⟩
    | io d => obtain ⟨x, q, r⟩ := k; exact ⟨x, q, r.mon m fun _ z => h _ _ z⟩
    | lk d =>
      obtain ⟨x, q, r | ⟨a, ea, na, r⟩⟩ := k
      · exact ⟨x, q, .inl (r.mon m)⟩
      · exact ⟨x, q, .inr ⟨a, ea, na, r.mon m fun _ z => h _ _ z⟩⟩
  · rcases m with m | m
    · exact S1.mc a m z
    · have m' : a = p := m
      subst m'; exact hp z
  · rcases z with z | z
    · exact S.nmc a m z
    · have z' : a = p := z
      subst z'; exact nm m
theorem StOk.fresh (S : StOk N G σ H ρ) {a : Addr} (h : H a = none) : Frz G.Mc σ ρ a := ⟨fun z => S.mc a z h, fun z => S.mutThere z h⟩
end

/-! ### results of expressions -/
inductive Rv where
  | val (d : D) | own (d : D) | bor (i : Nat)
inductive Out (α : Type) where
  | ok (a : α) (ρ : Env) | exc (x : Exn) (ρ : Env) | stuck
def Out.bind {α β : Type} (o : Out α) (k : α → Env → Out β) : Out β := match o with
  | .ok a ρ => k a ρ
  | .exc x ρ => .exc x ρ
  | .stuck => .stuck
def ownA : Rv → V → Addr → Prop
  | .own _, v => fun a => v = .ref a
  | _, _ => noA
/-- what is held in a slot for reading -/
def Slot.rd : Slot → Option D
  | .un => none
  | .val d => some d
  | .own d => some d
  | .io d => some d
  | .lk d => some d
def Slot.ref : Slot → Bool
  | .own _ => true
  | .io _ => true
  | .lk _ => true
  | _ => false
/-- a result's content as the slots stand -/
def rdc (ρ : Env) : Rv → Option D
  | .val d => some d
  | .own d => some d
  | .bor i => (ρ[i]?).bind Slot.rd
def RvOk (N : Nm) (Mc : Addr → Prop) (σ : Sg) (H : Hp) (ρ : Env) : Rv → V → Prop
  | .val d, v => Rep N (Frz Mc σ ρ) H d v
  | .own d, v => ∃ p, v = .ref p ∧ Mc p ∧ ORep N (Frz Mc σ ρ) H p d
  | .bor i, v => σ[i]? = some (some v)
/-- the owned results are new, or were one's own -/
def Fresh (G : Gh) (M : Addr → Prop) : Prop := ∀ b, M b → (G.H0 b = none ∨ G.W0 b) ∧ ¬ G.Mc b ∧ ¬ G.Lk b
def XOk (N : Nm) (F : Addr → Prop) (H : Hp) (x : Exn) (cls : Value) (dd : Option Addr) : Prop :=
  ∃ Ca, N.cls x.C = some Ca ∧ cls = .ref Ca ∧ ((x.fs = [] ∧ dd = none) ∨ ∃ a vs, dd = some a ∧ H a = some (.xd vs) ∧ RepF N F H x.fs vs)

/-- what a kind of results is: what it owns, what it stands for -/
structure Kit (N : Nm) (α β : Type) where
  own : α → β → Addr → Prop
  ok : (Addr → Prop) → Sg → Hp → Env → α → β → Prop
  weak : ∀ (Mc Mc' : Addr → Prop) (σ : Sg) (H : Hp) (ρ : Env) (a : α) (b : β), (∀ x, Mc' x → Mc x) → (∀ x, own a b x → Mc' x) → ok Mc σ H ρ a b → ok Mc' σ H ρ a b
theorem frz_weak {Mc Mc' : Addr → Prop} {σ : Sg} {ρ : Env} {H : Hp} (h : ∀ x, Mc' x → Mc x) : Mon (Frz Mc σ ρ) H (Frz Mc' σ ρ) H := fun b o f e => ⟨⟨fun z => f.1 (h b z), f.2⟩, e⟩
theorem RvOk.weak {N : Nm} {Mc Mc' : Addr → Prop} {σ : Sg} {H : Hp} {ρ : Env} {r : Rv} {v : V} (h1 : ∀ x, Mc' x → Mc x) (h2 : ∀ x, ownA r v x → Mc' x) (h : RvOk N Mc σ H ρ r v) : RvOk N Mc' σ H ρ r v := by
  cases r with
  | val d => exact Rep.mon (frz_weak h1) _ _ h
  | bor i => exact h
  | own d => obtain ⟨p, e, _, o⟩ := h; exact ⟨p, e, h2 p e, o.mon (frz_weak h1) fun _ z => z⟩
def kE (N : Nm) : Kit N Rv V where
  own := ownA
  ok := RvOk N
  weak := fun _ _ _ _ _ _ _ h1 h2 h => h.weak h1 h2
def kT (N : Nm) : Kit N Bool Bool where
  own := fun _ _ => noA
  ok := fun _ _ _ _ a b => a = b
  weak := fun _ _ _ _ _ _ _ _ _ h => h
def ownAs : List Rv → List V → Addr → Prop
  | r :: rs, v :: vs => fun a => ownA r v a ∨ ownAs rs vs a
  | _, _ => noA
def RvsOk (N : Nm) (Mc : Addr → Prop) (σ : Sg) (H : Hp) (ρ : Env) : List Rv → List V → Prop
  | [], vs => vs = []
  | r :: rs, vs => ∃ v w, vs = v :: w ∧ RvOk N Mc σ H ρ r v ∧ RvsOk N Mc σ H ρ rs w ∧ ∀ a, ownA r v a → ¬ ownAs rs w a
theorem RvsOk.weak {N : Nm} {Mc Mc' : Addr → Prop} {σ : Sg} {H : Hp} {ρ : Env} (h1 : ∀ x, Mc' x → Mc x) : ∀ {rs : List Rv} {vs : List V}, (∀ x, ownAs rs vs x → Mc' x) → RvsOk N Mc σ H ρ rs vs → RvsOk N Mc' σ H ρ rs vs
  | [], _, _, h => h
  | r :: rs, _, h2, ⟨v, w, e, a, b, c⟩ => by
    subst e
    exact ⟨v, w, rfl, a.weak h1 (fun x z => h2 x (.inl z)), RvsOk.weak h1 (fun x z => h2 x (.inr z)) b, c⟩
def kA (N : Nm) : Kit N (List Rv) (List V) where
  own := ownAs
  ok := RvsOk N
  weak := fun _ _ _ _ _ _ _ h1 h2 h => h.weak h1 h2
def OutOk {α β : Type} {N : Nm} (K : Kit N α β) (W : WX) (G : Gh) (σ : Sg) (Q : β → Hp → Prop) : Out α → Prop
  | .ok r ρ' => ∀ v H', StOk N (G.add (K.own r v)) σ H' ρ' → K.ok (G.add (K.own r v)).Mc σ H' ρ' r v → Fresh G (K.own r v) → Q v H'
  | .exc x ρ' => ∀ cls dd H', StOk N G σ H' ρ' → XOk N (Frz G.Mc σ ρ') H' x cls dd → W cls dd σ H'
  | .stuck => False
/-- a reading -/
def tK {α β : Type} {N : Nm} (K : Kit N α β) (W : WX) (f : Env → Out α) : Sg → Hp → (β → Hp → Prop) → Prop := fun σ H Q => ∃ G ρ, StOk N G σ H ρ ∧ OutOk K W G σ Q (f ρ)
abbrev tE (N : Nm) (W : WX) (f : Env → Out Rv) : TE := tK (kE N) W f
abbrev tT (N : Nm) (W : WX) (f : Env → Out Bool) : TT := tK (kT N) W f
abbrev tA (N : Nm) (W : WX) (f : Env → Out (List Rv)) : TA := tK (kA N) W f

section
variable {α β γ δ : Type} {N : Nm} {K : Kit N α β} {L : Kit N γ δ} {W : WX} {G : Gh} {σ : Sg} {H H1 : Hp} {ρ ρ1 : Env} {Q : β → Hp → Prop} {M : Addr → Prop}
theorem Fresh.no : Fresh G noA := fun _ h => h.elim
theorem Fresh.back (S : StOk N G σ H ρ) {M' : Addr → Prop} (h : Fresh ((G.at σ H ρ).add M) M') : Fresh G M' := fun b hb => by
  obtain ⟨q1, q2⟩ := h b hb
  refine ⟨?_, fun z => q2.1 (.inl z), q2.2⟩
  rcases q1 with q1 | q1
  · exact .inl (S.dom b q1)
  · rcases S.mu b q1 with w | w
    · exact .inr w
    · exact .inl w
theorem XOk.mon {F F' : Addr → Prop} {H' : Hp} {x : Exn} {cls : Value} {dd : Option Addr} (m : Mon F H' F' H') (h : XOk N F H' x cls dd) : XOk N F' H' x cls dd := by
  obtain ⟨Ca, e1, e2, e3⟩ := h
  refine ⟨Ca, e1, e2, ?_⟩
  rcases e3 with e3 | ⟨a, vs, q1, q2, q3⟩
  · exact .inl e3
  · exact .inr ⟨a, vs, q1, q2, RepF.mon m _ _ q3⟩
/-- what is asked of the rest, from the later state on -/
theorem OutOk.shift (S : StOk N G σ H ρ) {o : Out α} (h : OutOk K W G σ Q o) : OutOk K W ((G.at σ H ρ).add M) σ Q o := by
  cases o with
  | stuck => exact h
  | exc x ρ' =>
    intro cls dd H' S' X
    have S2 := S.comp S'
    exact h cls dd H' S2.drop (X.mon (frz_weak fun _ z => .inl z))
  | ok r ρ' =>
    intro v H' S' r' fr'
    have S1 : StOk N ((G.at σ H ρ).add fun a => M a ∨ K.own r v a) σ H' ρ' := S'.weak fun a z => z.elim (fun z => .inl (.inl z)) fun z => z.elim (fun z => .inl (.inr z)) .inr
    have S2 := S.comp S1
    exact h v H' (S2.weak fun a z => z.elim .inl fun z => .inr (.inr z)) (K.weak _ _ σ H' ρ' r v (fun x z => z.elim (fun z => .inl (.inl z)) .inr) (fun x z => .inr z) r') (fr'.back S)
/-- one thing, then the rest -/
theorem tK_then {f : Env → Out γ} {k : γ → Env → Out α} {R : δ → Hp → Prop} (S : StOk N G σ H ρ) (h : OutOk K W G σ Q ((f ρ).bind k))
    (next : ∀ r ρ1 v H1, StOk N ((G.at σ H ρ).add (L.own r v)) σ H1 ρ1 → L.ok ((G.at σ H ρ).add (L.own r v)).Mc σ H1 ρ1 r v → Fresh (G.at σ H ρ) (L.own r v) → OutOk K W ((G.at σ H ρ).add (L.own r v)) σ Q (k r ρ1) → R v H1) : tK L W f σ H R := by
  refine ⟨G.at σ H ρ, ρ, S.at, ?_⟩
  cases e : f ρ with
  | stuck => rw [e] at h; exact h
  | exc x ρ' =>
    rw [e] at h
    intro cls dd H' S' X
    exact h cls dd H' (S.comp0 S') X
  | ok r ρ' =>
    rw [e] at h
    intro v H' S' r' fr
    exact next r ρ' v H' S' r' fr (OutOk.shift S h)
/-- an earlier result, later -/
theorem RvOk.later {M : Addr → Prop} {r : Rv} {v : V} (S : StOk N G σ H ρ) (S' : StOk N ((G.at σ H ρ).add M) σ H1 ρ1) (hM : Fresh (G.at σ H ρ) M) (h : RvOk N G.Mc σ H ρ r v) : RvOk N ((G.at σ H ρ).add M).Mc σ H1 ρ1 r v := by
  have m : Mon (Frz G.Mc σ ρ) H (Frz (G.add M).Mc σ ρ1) H1 := S.still S' fun b hb => (hM b hb).1
  cases r with
  | val d => exact Rep.mon m _ _ h
  | bor i => exact h
  | own d =>
    obtain ⟨p, e, mp, o⟩ := h
    refine ⟨p, e, .inl mp, o.mon m fun o q => S'.fr p o q fun z => S.nmc p z mp⟩
theorem RvsOk.later {M : Addr → Prop} (S : StOk N G σ H ρ) (S' : StOk N ((G.at σ H ρ).add M) σ H1 ρ1) (hM : Fresh (G.at σ H ρ) M) : ∀ {rs : List Rv} {vs : List V}, RvsOk N G.Mc σ H ρ rs vs → RvsOk N ((G.at σ H ρ).add M).Mc σ H1 ρ1 rs vs
  | [], _, h => h
  | _ :: _, _, ⟨v, w, e, a, b, c⟩ => ⟨v, w, e, a.later S S' hM, RvsOk.later S S' hM b, c⟩
/-- what a result holds, for reading -/
theorem RvOk.rd {r : Rv} {v : V} {d : D} (S : StOk N G σ H ρ) (h : RvOk N G.Mc σ H ρ r v) (e : rdc ρ r = some d) : Rd1 N (Frz G.Mc σ ρ) H d v := by
  cases r with
  | val d' => cases e; exact .inl h
  | own d' => cases e; obtain ⟨p, e, _, o⟩ := h; exact .inr ⟨p, e, o⟩
  | bor i =>
    have h : σ[i]? = some (some v) := h
    cases q : ρ[i]? with
    | none =>
      have e : (ρ[i]?).bind Slot.rd = some d := e
      rw [q] at e; cases e
    | some s =>
      have e : (ρ[i]?).bind Slot.rd = some d := e
      rw [q] at e
      obtain ⟨w, ew, k⟩ := S.slot i s q
      rw [h] at ew; cases ew
      cases s with
      | un => cases e
      | val d => cases e; obtain ⟨x, ex, r⟩ := k; cases ex; exact .inl r
      | own d => cases e; obtain ⟨x, ex, r⟩ := k; cases ex; exact .inr ⟨x, rfl, r⟩
      | io d => cases e; obtain ⟨x, ex, r⟩ := k; cases ex; exact .inr ⟨x, rfl, r⟩
      | lk d =>
        cases e
        obtain ⟨x, ex, r | ⟨a, ea, _, r⟩⟩ := k
        · cases ex; exact .inl r
        · cases ex; exact .inr ⟨a, ea, r⟩
end
end Wf

/-! Wf: the small code and what it does -/
namespace Wf
open PySem PySem.Spec PyProof.Rows L2

inductive Ty where
  | non | bl | int | str | lst | tup | dic | cls (C : Nat) | verr
deriving DecidableEq, Inhabited
inductive Bi where
  | len | tuple | list | int | bool | sum | min | max | any | all | abs | sorted | gcd | str | dict | set
deriving DecidableEq, Inhabited
/-- methods of built-in types that change nothing -/
inductive Bm where
  | bitLength | index | count | items | keys | values | get | join | split | startswith | endswith
deriving DecidableEq, Inhabited
inductive Tg where
  | name (i : Nat) | nil | cons (a b : Tg)
deriving Inhabited
mutual
inductive Ex where
  | var (i : Nat)
  | non | bl (b : Bool) | int (i : Int) | str (x : Str)
  | glo (g : Nat)
  | bin (op : Operator) (a b : Ex)
  | neg (a : Ex) | inv (a : Ex) | nt (a : Ex)
  | cmp (op : CmpOp) (a b : Ex)
  | cmp2 (op op2 : CmpOp) (a b c : Ex)
  | and (a b : Ex) | or (a b : Ex)
  | ite (c a b : Ex)
  | tup (es : Exs) | lst (es : Exs)
  | sub (a i : Ex)
  | slc (a : Ex) (lo hi : Ex)
  | att (a : Ex) (f : Nat)
  | ccon (C f : Nat)
  | call (f : Nat) (es : Exs)
  | new (C : Nat) (es : Exs)
  | isi (a : Ex) (t : Ty)
  | bi (b : Bi) (es : Exs)
  | bm (m : Bm) (a : Ex) (es : Exs)
  | mth (a : Ex) (m : Nat) (es : Exs)
  | lso (a : Ex)
  | app (i : Nat) (e : Ex)
  | pop (i : Nat)
  | popAt (i : Nat) (e : Ex)
  | comp (e : Ex) (tg : Tg) (src : Src) (cond : Ex)
  | never
inductive Exs where
  | nil | cons (e : Ex) (es : Exs)
inductive Src where
  | of (e : Ex) | range1 (a : Ex) | range2 (a b : Ex) | enum (a : Ex) | zip (a b : Ex) | rev (a : Ex)
end
mutual
inductive Stm where
  | expr (e : Ex)
  | set (i : Nat) (e : Ex)
  | hold (i : Nat) (e : Ex)
  | setsub (i : Nat) (k e : Ex)
  | setatt (i : Nat) (f : Nat) (e : Ex)
  | unpack (tg : Tg) (e : Ex)
  | ite (c : Ex) (a b : Stms)
  | for_ (tg : Tg) (src : Src) (body : Stms)
  | while_ (c : Ex) (body : Stms)
  | ret (e : Ex) | retN
  | raise (C : Nat) (es : Exs)
  | try_ (body : Stms) (cs : List Nat) (i : Option Nat) (h : Stms)
  | pass | brk | cnt | never
inductive Stms where
  | nil | cons (s : Stm) (r : Stms)
end
/-- how a parameter is given: as a value, to be read, to be changed, for good -/
inductive Mode where
  | v | r | m | o
deriving DecidableEq, Inhabited
structure Fd where
  modes : List Mode
  dfl : List D
  ns : Nat
  body : Stms
  kwo : Nat
structure Tab where
  fn : Nat → Option Fd
  con : Nat → Option D
  ccon : Nat → Nat → Option D
  flds : Nat → List Nat
  meth : Nat → Nat → Option Nat
  init : Nat → Option Nat
  itf : Nat → Option Nat
  exf : Nat → Option (List (Nat × Nat) × Nat)
  isi : Ty → Ty → Option Bool
  esub : Nat → Nat → Bool
  wf : Nat

inductive COut where
  | ret (r : Rv) (outs : List Slot) | exc (x : Exn) (outs : List Slot) | stuck
abbrev Cl := Nat → List Slot → COut

def flatD : D → Bool
  | .non => true | .bl _ => true | .int _ => true | .str _ => true | _ => false
def kindD : D → Option Ty
  | .non => some .non | .bl _ => some .bl | .int _ => some .int | .str _ => some .str
  | .lst _ => some .lst | .tup _ => some .tup | .dic _ => some .dic | .dit _ => some .dic
  | .ins C _ => some (.cls C) | .exc C _ => some (.cls C) | .scr _ => none
mutual
def toPy : D → Option PyData
  | .non => some .none | .bl b => some (.bool b) | .int i => some (.int i) | .str x => some (.str x)
  | .tup ds => (toPys ds).map .tuple | .lst ds => (toPys ds).map .list
  | _ => none
def toPys : List D → Option (List PyData)
  | [] => some []
  | d :: ds => (toPy d).bind fun x => (toPys ds).map fun r => x :: r
end
/-- == -/
def eqD (x y : D) : Option Bool := (toPy x).bind fun a => (toPy y).bind fun b => if SeqAt.shaped a && SeqAt.shaped b then some (PyData.eqv a b) else none
def isN : D → Bool
  | .non => true | _ => false
/-- == of flat things -/
def eqF : D → D → Bool
  | .non, .non => true
  | .bl a, .bl b => a == b
  | .bl a, .int b => (if a then 1 else 0) == b
  | .int a, .bl b => a == (if b then 1 else 0)
  | .int a, .int b => a == b
  | .str a, .str b => a == b
  | _, _ => false
def strLt (x y : Str) : Bool := decide (x.cps.toList < y.cps.toList)
def cmpD (op : CmpOp) (x y : D) : Option Bool := match op, x, y with
  | .Lt, .int i, .int j => some (decide (i < j))
  | .LtE, .int i, .int j => some (decide (i ≤ j))
  | .Gt, .int i, .int j => some (decide (j < i))
  | .GtE, .int i, .int j => some (decide (j ≤ i))
  | .Eq, .int i, .int j => some (decide (i = j))
  | .NotEq, .int i, .int j => some (!decide (i = j))
  | .Eq, x, y => eqD x y
  | .NotEq, x, y => (eqD x y).map (!·)
  | .Is, x, .non => some (isN x)
  | .IsNot, x, .non => some (!isN x)
  | .In, x, .tup ys => if flatD x && ys.all flatD then some (ys.any fun y => eqF y x) else none
  | .In, x, .lst ys => if flatD x && ys.all flatD then some (ys.any fun y => eqF y x) else none
  | .NotIn, x, .tup ys => if flatD x && ys.all flatD then some (!(ys.any fun y => eqF y x)) else none
  | .NotIn, x, .lst ys => if flatD x && ys.all flatD then some (!(ys.any fun y => eqF y x)) else none
  | _, _, _ => none
/-- the sizes of ints -/
def smallI (i : Int) : Bool := decide (-(2 ^ 64) < i ∧ i < 2 ^ 64)
def mulOk (i j : Int) : Bool := smallI i || smallI j || decide ((Builtin.Int.intBits i : Int) + (Builtin.Int.intBits j : Int) ≤ 134217728)
def powOk (i j : Int) : Bool := decide (0 ≤ j ∧ j ≤ 1000000) && smallI i
def divOk (j : Int) : Bool := decide (0 < j) && decide (j.natAbs.log2 < 9000)
def ndivOk (j : Int) : Bool := decide (j < 0) && decide (j.natAbs < 1073741824)
def binD (op : Operator) (x y : D) : Option (Bool × D) := match op, x, y with
  | .Add, .int i, .int j => some (false, .int (i + j))
  | .Sub, .int i, .int j => some (false, .int (i - j))
  | .Mult, .int i, .int j => if mulOk i j then some (false, .int (i * j)) else none
  | .FloorDiv, .int i, .int j => if divOk j then some (false, .int (i / j)) else if ndivOk j then some (false, .int (i.fdiv j)) else none
  | .Mod, .int i, .int j => if decide (0 < j) then some (false, .int (i % j)) else none
  | .Pow, .int i, .int j => if powOk i j then some (false, .int (i ^ j.toNat)) else none
  | .LShift, .int i, .int j => if powOk i j then some (false, .int (i * 2 ^ j.toNat)) else none
  | .RShift, .int i, .int j => if decide (0 ≤ j) then some (false, .int (i / 2 ^ j.toNat)) else none
  | .BitAnd, .int i, .int j => some (false, .int (Builtin.bitAnd i j))
  | .BitOr, .int i, .int j => some (false, .int (Builtin.bitOr i j))
  | .BitXor, .int i, .int j => some (false, .int (Builtin.bitXor i j))
  | .Add, .str i, .str j => if decide (i.length + j.length ≤ sizeLine) then some (false, .str (i ++ j)) else none
  | .Add, .lst xs, .lst ys => if decide (xs.length + ys.length ≤ sizeLine) then some (true, .lst (xs ++ ys)) else none
  | .Mult, .lst xs, .int k => if decide (-(2 ^ 63) ≤ k ∧ k < 2 ^ 63 ∧ xs.length * k.toNat ≤ sizeLine) then some (true, .lst (List.replicate k.toNat xs).flatten) else none
  | .Add, .tup xs, .tup ys => if decide (xs.length + ys.length ≤ sizeLine) then some (false, .tup (xs ++ ys)) else none
  | _, _, _ => none
def truD : D → Option Bool
  | .non => some false | .bl b => some b | .int i => some (i != 0)
  | .str x => if decide (x.length ≤ sizeLine) then some ((x.length : Int) != 0) else none
  | .lst xs => some (!xs.isEmpty) | .tup xs => some (!xs.isEmpty) | .dic xs => some (!xs.isEmpty)
  | _ => none
def subD (x i : D) : Option D := match x, i with
  | .lst xs, .int k => atI xs k
  | .tup xs, .int k => atI xs k
  | .dic kvs, .int k => kvs.lookup (.inl k)
  | .dic kvs, .str k => kvs.lookup (.inr k)
  | .str x, .int k => if decide (x.length ≤ sizeLine) then (atI x.cps.toList k).map fun c => .str ⟨#[c]⟩ else none
  | _, _ => none
def sub2 (x y : D) : Option (Bool × D) := match x with
  | .dic _ => none
  | _ => (subD x y).map fun d => (false, d)
def negD : D → Option (Bool × D)
  | .int i => some (false, .int (-i)) | _ => none
def invD : D → Option (Bool × D)
  | .int i => some (false, .int (Builtin.bitNot i)) | _ => none
def ntD (x : D) : Option (Bool × D) := (truD x).map fun b => (false, .bl (!b))
def cmp2D (op : CmpOp) (x y : D) : Option (Bool × D) := (cmpD op x y).map fun c => (false, .bl c)
def cutD (xs : List D) (lo hi : Option Int) : List D := (xs.drop (HT.sIx xs.length 0 lo)).take (HT.sIx xs.length xs.length hi - HT.sIx xs.length 0 lo)
def cutI (xs : List Int) (lo hi : Option Int) : List Int := (xs.drop (HT.sIx xs.length 0 lo)).take (HT.sIx xs.length xs.length hi - HT.sIx xs.length 0 lo)
def slcD (l h : Option Int) (x : D) : Option (Bool × D) := match x with
  | .lst xs => some (true, .lst (cutD xs l h))
  | .scr ns => some (true, .lst ((cutI ns l h).map D.int))
  | .tup xs => some (false, .tup (cutD xs l h))
  | _ => none
def intsD : List D → Option (List Int)
  | [] => some []
  | .int i :: r => (intsD r).map fun is => i :: is
  | _ => none
def blsD : List D → Option (List Bool)
  | [] => some []
  | .bl i :: r => (blsD r).map fun is => i :: is
  | _ => none
def seqD : D → Option (List D)
  | .lst xs => some xs | .tup xs => some xs | _ => none
def maxI : List Int → Option Int
  | [] => none
  | i :: r => some (r.foldl max i)
def minI : List Int → Option Int
  | [] => none
  | i :: r => some (r.foldl min i)
def biD (b : Bi) (xs : List D) : Option (Bool × D) := match b, xs with
  | .len, [.lst ds] => some (false, .int ds.length)
  | .len, [.tup ds] => some (false, .int ds.length)
  | .len, [.dic ds] => some (false, .int ds.length)
  | .len, [.str x] => if decide (x.length ≤ sizeLine) then some (false, .int x.length) else none
  | .tuple, [.lst ds] => some (false, .tup ds)
  | .tuple, [.tup ds] => some (false, .tup ds)
  | .list, [.lst ds] => some (true, .lst ds)
  | .list, [.tup ds] => some (true, .lst ds)
  | .int, [.int i] => some (false, .int i)
  | .int, [.bl k] => some (false, .int (if k then 1 else 0))
  | .bool, [.int i] => some (false, .bl (i != 0))
  | .bool, [.bl k] => some (false, .bl k)
  | .abs, [.int i] => some (false, .int (if i < 0 then -i else i))
  | .max, [.int i, .int j] => some (false, .int (if j > i then j else i))
  | .min, [.int i, .int j] => some (false, .int (if j < i then j else i))
  | .gcd, [.int i, .int j] => some (false, .int ((Nat.gcd i.natAbs j.natAbs : Nat) : Int))
  | .sum, [.lst ds] => (intsD ds).map fun is => (false, .int is.sum)
  | .max, [.lst ds] => (intsD ds).bind fun is => (maxI is).map fun i => (false, .int i)
  | .min, [.lst ds] => (intsD ds).bind fun is => (minI is).map fun i => (false, .int i)
  | .any, [.lst ds] => (match blsD ds with
    | some is => some (false, .bl (is.any id))
    | none => (intsD ds).map fun is => (false, .bl (is.any fun n => n != 0)))
  | .all, [.lst ds] => (blsD ds).map fun is => (false, .bl (is.all id))
  | _, _ => none
def bmD (m : Bm) (x : D) (xs : List D) : Option (Bool × D) := match m, x, xs with
  | .bitLength, .int i, [] => some (false, .int (Builtin.Int.intBits i : Nat))
  | _, _, _ => none
def fldD (fs : List (Nat × D)) (f : Nat) : Option D := fs.lookup f
def putD (f : Nat) (d : D) : List (Nat × D) → List (Nat × D)
  | [] => [(f, d)]
  | (g, x) :: r => if g = f then (g, d) :: r else (g, x) :: putD f d r

/-! ### slots -/
def asg (i : Nat) (s : Slot) (ρ : Env) : Option Env := match ρ[i]? with
  | none => none
  | some (.io _) => none
  | some _ => some (ρ.set i s)
def toVal (ρ : Env) : Rv → Option (D × Env)
  | .val d => some (d, ρ)
  | .own d => some (d, ρ)
  | .bor i => match ρ[i]? with
    | some (.val d) => some (d, ρ)
    | some (.own d) => some (d, ρ.set i (.val d))
    | some (.lk d) => if flatD d then some (d, ρ) else none
    | _ => none
/-- what is walked -/
def toSrc (ρ : Env) : Rv → Option (D × Env)
  | .val d => some (d, ρ)
  | .own d => some (d, ρ)
  | .bor i => match ρ[i]? with
    | some (.val d) => some (d, ρ)
    | some (.own d) => some (d, ρ.set i (.val d))
    | some (.lk d) => some (d, ρ)
    | _ => none
mutual
def bindT : Tg → D → Env → Option Env
  | .name i, d, ρ => asg i (.val d) ρ
  | .nil, .tup [], ρ => some ρ
  | .cons a b, .tup (d :: ds), ρ => (bindT a d ρ).bind fun ρ => bindT b (.tup ds) ρ
  | _, _, _ => none
end
def slotsT : Tg → List Nat
  | .name i => [i]
  | .nil => []
  | .cons a b => slotsT a ++ slotsT b
def freeSlot (ρ : Env) (i : Nat) : Bool := match ρ[i]? with
  | some .un => true | some (.val _) => true | _ => false
def clear : List Nat → Env → Env
  | [], ρ => ρ
  | i :: r, ρ => (clear r ρ).set i .un
def restore (ρ0 : Env) : List Nat → Env → Env
  | [], ρ => ρ
  | i :: r, ρ => (restore ρ0 r ρ).set i (ρ0.getD i .un)
/-- slot i holds a changeable d -/
def ownAt (ρ : Env) (i : Nat) : Option (D × (D → Slot)) := match ρ[i]? with
  | some (.own d) => some (d, .own)
  | some (.io d) => some (d, .io)
  | _ => none
abbrev Bk := Option (Nat × (D → Slot) × D)
/-- one argument -/
def give1 (ρ : Env) : Mode → Rv → Option (Slot × Env × Bk)
  | .v, r => (toVal ρ r).map fun p => (.val p.1, p.2, none)
  | .r, .val d => some (.lk d, ρ, none)
  | .r, .own d => some (.lk d, ρ, none)
  | .r, .bor i => (match ownAt ρ i with
    | some (d, k) => some (.lk d, ρ.set i .un, some (i, k, d))
    | none => (match (ρ[i]?).bind Slot.rd with | some d => some (.lk d, ρ, none) | none => none))
  | .m, .own d => some (.io d, ρ, none)
  | .m, .bor i => (match ownAt ρ i with
    | some (d, k) => some (.io d, ρ.set i .un, some (i, k, d))
    | none => none)
  | .m, .val _ => none
  | .o, .own d => some (.own d, ρ, none)
  | .o, .bor i => (match ρ[i]? with
    | some (.own d) => some (.own d, ρ.set i .un, none)
    | _ => none)
  | .o, .val _ => none
/-- the arguments of a call: the slots given, what the caller has left, how to take back -/
def give (ρ : Env) : List Mode → List Rv → Option (List Slot × Env × List Bk)
  | [], [] => some ([], ρ, [])
  | m :: ms, r :: rs => (give1 ρ m r).bind fun p => (give p.2.1 ms rs).map fun q => (p.1 :: q.1, q.2.1, p.2.2 :: q.2.2)
  | _, _ => none
/-- what was lent comes back -/
def takeBack : List Bk → List Slot → Env → Option Env
  | [], [], ρ => some ρ
  | none :: bs, _ :: os, ρ => takeBack bs os ρ
  | some (i, k, d) :: bs, o :: os, ρ => (takeBack bs os ρ).bind fun ρ => match ρ[i]? with
      | some .un => some (ρ.set i (match o with | .io d' => k d' | _ => k d))
      | _ => none
  | _, _, _ => none

inductive SOut where
  | nx (ρ : Env) | rt (r : Rv) (ρ : Env) | bk (ρ : Env) | ct (ρ : Env) | exc (x : Exn) (ρ : Env) | stuck
def Out.pure {α : Type} (a : α) (ρ : Env) : Out α := .ok a ρ
def mkRv (o : Option (Bool × D)) (ρ : Env) : Out Rv := match o with
  | some (true, d) => .ok (.own d) ρ
  | some (false, d) => .ok (.val d) ρ
  | none => .stuck
def op1 (f : D → Option (Bool × D)) (r : Rv) (ρ : Env) : Out Rv := match rdc ρ r with
  | some x => mkRv (f x) ρ
  | none => .stuck
def op2 (f : D → D → Option (Bool × D)) (r s : Rv) (ρ : Env) : Out Rv := match rdc ρ r, rdc ρ s with
  | some x, some y => mkRv (f x y) ρ
  | _, _ => .stuck
def rdcs (ρ : Env) : List Rv → Option (List D)
  | [] => some []
  | r :: rs => (rdc ρ r).bind fun d => (rdcs ρ rs).map fun ds => d :: ds
def toVals : List Rv → Env → Option (List D × Env)
  | [], ρ => some ([], ρ)
  | r :: rs, ρ => (toVal ρ r).bind fun (d, ρ) => (toVals rs ρ).map fun (ds, ρ) => (d :: ds, ρ)
def fillD (dv : List D) (n k : Nat) : List D := dv.drop (k + dv.length - n)
def callG (o : List Slot → COut) (ms : List Mode) (rs : List Rv) (ρ : Env) : Out Rv := match give ρ ms rs with
  | none => .stuck
  | some (as, ρ1, bs) => match o as with
    | .ret (.bor _) _ => .stuck
    | .ret r outs => (match takeBack bs outs ρ1 with | some ρ2 => .ok r ρ2 | none => .stuck)
    | .exc x outs => (match takeBack bs outs ρ1 with | some ρ2 => .exc x ρ2 | none => .stuck)
    | .stuck => .stuck
def callD (T : Tab) (cl : Cl) (f : Nat) (rs : List Rv) (ρ : Env) : Out Rv := match T.fn f with
  | none => .stuck
  | some fd => if fd.dfl.all flatD && decide (rs.length + fd.kwo ≤ fd.modes.length) then callG (cl f) fd.modes (rs ++ (fillD fd.dfl fd.modes.length rs.length).map .val) ρ else .stuck
def newG (o : List Slot → COut) (ms : List Mode) (rs : List Rv) (ρ : Env) : Out Rv := match give ρ ms rs with
  | some (.io d0 :: as, ρ1, bs) => (match o (.io d0 :: as) with
    | .ret (.val .non) (.io d :: outs) => (match takeBack bs (.io d :: outs) ρ1 with | some ρ2 => .ok (.own d) ρ2 | none => .stuck)
    | .exc x outs => (match takeBack bs outs ρ1 with | some ρ2 => .exc x ρ2 | none => .stuck)
    | _ => .stuck)
  | _ => .stuck
def newD (T : Tab) (cl : Cl) (C : Nat) (rs : List Rv) (ρ : Env) : Out Rv := match T.init C with
  | none => .stuck
  | some f => match T.fn f with
    | none => .stuck
    | some fd => if fd.dfl.all flatD && decide (rs.length + 1 + fd.kwo ≤ fd.modes.length) then newG (cl f) fd.modes (.own (.ins C []) :: rs ++ (fillD fd.dfl fd.modes.length (rs.length + 1)).map .val) ρ else .stuck
def attD (T : Tab) (f : Nat) (x : D) : Option (Bool × D) := match x with
  | .ins C fs => if (T.flds C).contains f then (fs.lookup f).map fun d => (false, d) else (match fs.lookup f with
    | none => (T.ccon C f).map fun d => (false, d)
    | some _ => none)
  | _ => none
/-- list of an object: what its iterator walks -/
def lsoD (T : Tab) (x : D) : Option (Bool × D) := match x with
  | .ins C fs => (match T.itf C with
    | some f => (match fs.lookup f with
      | some (.tup ds) => some (true, .lst ds)
      | _ => none)
    | none => none)
  | _ => none
def isiD (T : Tab) (t : Ty) (x : D) : Option (Bool × D) := (kindD x).bind fun k => (T.isi k t).map fun b => (false, .bl b)
def tru1 (r : Rv) (ρ : Env) : Out Bool := match (rdc ρ r).bind truD with | some b => .ok b ρ | none => .stuck
/-- an int, as a part of a slice -/
def intP (r : Rv) (ρ : Env) : Out (Option Int) := match rdc ρ r with
  | some (.int i) => .ok (some i) ρ
  | _ => .stuck
def bi1 (b : Bi) (rs : List Rv) (ρ : Env) : Out Rv := match rdcs ρ rs with
  | some ds => mkRv (biD b ds) ρ
  | none => .stuck
def mth1 (T : Tab) (m : Nat) (r : Rv) (ρ : Env) (k : Nat → Out Rv) : Out Rv := match rdc ρ r with
  | some (.ins C fs) => (match fs.lookup m, T.meth C m with
    | none, some f => k f
    | _, _ => .stuck)
  | _ => .stuck
/-- no error may leave -/
def Out.noex {α : Type} : Out α → Out α
  | .exc _ _ => .stuck
  | o => o
def compLoop (bd : D → Env → Option Env) (ct : Env → Out Bool) (ev : Env → Out Rv) (vs : List Nat) : List D → List D → Env → Out (List D)
  | [], acc, ρ => .ok acc ρ
  | x :: xs, acc, ρ => match bd x ρ with
    | none => .stuck
    | some ρ => (ct ρ).noex.bind fun c ρ => if c then (ev ρ).noex.bind fun r ρ => (match toVal ρ r with
        | some (d, ρ) => if decide (acc.length < sizeLine) then compLoop bd ct ev vs xs (acc ++ [d]) (clear vs ρ) else .stuck
        | none => .stuck)
      else compLoop bd ct ev vs xs acc (clear vs ρ)
def iotaD (lo : Int) : Nat → List D
  | 0 => []
  | n + 1 => .int lo :: iotaD (lo + 1) n
def enumD (k : Int) : List D → List D
  | [] => []
  | d :: ds => .tup [.int k, d] :: enumD (k + 1) ds
def zipD : List D → List D → List D
  | d :: ds, e :: es => .tup [d, e] :: zipD ds es
  | _, _ => []
/-- zip: two lists or two tuples -/
def zip2D : D → D → Option (List D)
  | .lst xs, .lst ys => some (zipD xs ys)
  | .tup xs, .tup ys => some (zipD xs ys)
  | _, _ => none
def rngOk (i : Int) : Bool := decide (-(2 ^ 62) ≤ i ∧ i < 2 ^ 62)
def itemsD : D → Option (List D)
  | .lst xs => some xs | .tup xs => some xs | _ => none
/-- slot i holds a changeable list -/
def isLst (ρ : Env) (i : Nat) : Bool := match ownAt ρ i with
  | some (.lst _, _) => true
  | _ => false
def app1 (i : Nat) (r : Rv) (ρ : Env) : Out Rv := match toVal ρ r with
  | some (d, ρ) => (match ownAt ρ i with
    | some (.lst xs, k) => if decide (xs.length < sizeLine) then .ok (.val .non) (ρ.set i (k (.lst (xs ++ [d])))) else .stuck
    | _ => .stuck)
  | none => .stuck
def pop1 (i : Nat) (ρ : Env) : Out Rv := match ownAt ρ i with
  | some (.lst xs, k) => (match xs[xs.length - 1]? with
    | some d => .ok (.val d) (ρ.set i (k (.lst xs.dropLast)))
    | none => .stuck)
  | _ => .stuck
def popAt1 (i : Nat) (r : Rv) (ρ : Env) : Out Rv := match rdc ρ r, ownAt ρ i with
  | some (.int j), some (.lst xs, k) => if decide (0 ≤ j ∧ j < xs.length ∧ j < 2 ^ 63) then (match xs[j.toNat]? with
    | some d => .ok (.val d) (ρ.set i (k (.lst (xs.eraseIdx j.toNat))))
    | none => .stuck) else .stuck
  | _, _ => .stuck
def varE (i : Nat) (ρ : Env) : Out Rv := match ρ[i]? with
  | some (.val d) => .ok (.val d) ρ
  | some .un => .stuck
  | none => .stuck
  | some _ => .ok (.bor i) ρ
def isNonC : Ex → Bool
  | .non => true | _ => false
def partR (b : Bool) (o : Out Rv) (ρ : Env) : Out (Option Int) := if b then .ok none ρ else o.bind intP
section
variable (T : Tab) (cl : Cl)
mutual
def evalE : Ex → Env → Out Rv
  | .var i, ρ => varE i ρ
  | .non, ρ => .ok (.val .non) ρ
  | .bl b, ρ => .ok (.val (.bl b)) ρ
  | .int i, ρ => .ok (.val (.int i)) ρ
  | .str x, ρ => .ok (.val (.str x)) ρ
  | .glo g, ρ => (match T.con g with | some d => .ok (.val d) ρ | none => .stuck)
  | .bin op a b, ρ => (evalE a ρ).bind fun r ρ => (evalE b ρ).bind fun s ρ => op2 (binD op) r s ρ
  | .neg a, ρ => (evalE a ρ).bind fun r ρ => op1 negD r ρ
  | .inv a, ρ => (evalE a ρ).bind fun r ρ => op1 invD r ρ
  | .nt a, ρ => (evalE a ρ).bind fun r ρ => op1 ntD r ρ
  | .cmp op a b, ρ => (evalE a ρ).bind fun r ρ => (evalE b ρ).bind fun s ρ => op2 (cmp2D op) r s ρ
  | .cmp2 op op2' a b c, ρ => (evalE a ρ).bind fun r ρ => (evalE b ρ).bind fun s ρ => (match rdc ρ r, rdc ρ s with
    | some x, some y => (match cmpD op x y with
      | some true => (evalE c ρ).bind fun t ρ => op2 (cmp2D op2') s t ρ
      | some false => .ok (.val (.bl false)) ρ
      | none => .stuck)
    | _, _ => .stuck)
  | .and a b, ρ => (evalE a ρ).bind fun r ρ => (match rdc ρ r with
    | some (.bl true) => evalE b ρ
    | some (.bl false) => .ok (.val (.bl false)) ρ
    | _ => .stuck)
  | .or a b, ρ => (evalE a ρ).bind fun r ρ => (match rdc ρ r with
    | some (.bl true) => .ok (.val (.bl true)) ρ
    | some (.bl false) => evalE b ρ
    | _ => .stuck)
  | .ite c a b, ρ => (evalT c ρ).bind fun k ρ => if k then evalE a ρ else evalE b ρ
  | .tup es, ρ => (evalEs es ρ).bind fun rs ρ => (match toVals rs ρ with
    | some (ds, ρ) => if decide (ds.length ≤ sizeLine) then .ok (.val (.tup ds)) ρ else .stuck
    | none => .stuck)
  | .lst es, ρ => (evalEs es ρ).bind fun rs ρ => (match toVals rs ρ with
    | some (ds, ρ) => if decide (ds.length ≤ sizeLine) then .ok (.own (.lst ds)) ρ else .stuck
    | none => .stuck)
  | .sub a i, ρ => (evalE a ρ).bind fun r ρ => (evalE i ρ).bind fun s ρ => op2 sub2 r s ρ
  | .slc a lo hi, ρ => (evalE a ρ).bind fun r ρ => (partR (isNonC lo) (evalE lo ρ) ρ).bind fun l ρ => (partR (isNonC hi) (evalE hi ρ) ρ).bind fun h ρ => op1 (slcD l h) r ρ
  | .att a f, ρ => (evalE a ρ).bind fun r ρ => op1 (attD T f) r ρ
  | .ccon C f, ρ => (match T.ccon C f with | some d => .ok (.val d) ρ | none => .stuck)
  | .call f es, ρ => (evalEs es ρ).bind fun rs ρ => callD T cl f rs ρ
  | .new C es, ρ => (evalEs es ρ).bind fun rs ρ => newD T cl C rs ρ
  | .isi a t, ρ => (evalE a ρ).bind fun r ρ => op1 (isiD T t) r ρ
  | .bi b es, ρ => (evalEs es ρ).bind fun rs ρ => bi1 b rs ρ
  | .bm m a es, ρ => (evalE a ρ).bind fun r ρ => (evalEs es ρ).bind fun rs ρ => (match rdcs ρ rs with
    | some ds => op1 (fun x => bmD m x ds) r ρ
    | none => .stuck)
  | .mth a m es, ρ => (evalE a ρ).bind fun r ρ => mth1 T m r ρ fun f => (evalEs es ρ).bind fun rs ρ => callD T cl f (r :: rs) ρ
  | .lso a, ρ => (evalE a ρ).bind fun r ρ => op1 (lsoD T) r ρ
  | .app i e, ρ => if isLst ρ i then (evalE e ρ).bind fun r ρ => app1 i r ρ else .stuck
  | .pop i, ρ => pop1 i ρ
  | .popAt i e, ρ => if isLst ρ i then (evalE e ρ).bind fun r ρ => popAt1 i r ρ else .stuck
  | .comp e tg src cond, ρ => (evalSrc src ρ).bind fun items ρ0 => if (slotsT tg).all (freeSlot ρ0) then
      (compLoop (bindT tg) (evalT cond) (evalE e) (slotsT tg) items [] (clear (slotsT tg) ρ0)).bind fun ds ρ => .ok (.own (.lst ds)) (restore ρ0 (slotsT tg) ρ)
    else .stuck
  | .never, _ => .stuck
def evalEs : Exs → Env → Out (List Rv)
  | .nil, ρ => .ok [] ρ
  | .cons e es, ρ => (evalE e ρ).bind fun r ρ => (evalEs es ρ).bind fun rs ρ => .ok (r :: rs) ρ
def evalT : Ex → Env → Out Bool
  | .and a b, ρ => (evalT a ρ).bind fun c ρ => if c then evalT b ρ else .ok false ρ
  | .or a b, ρ => (evalT a ρ).bind fun c ρ => if c then .ok true ρ else evalT b ρ
  | .nt a, ρ => (evalT a ρ).bind fun c ρ => .ok (!c) ρ
  | .var i, ρ => (varE i ρ).bind tru1
  | .cmp op a b, ρ => (evalE a ρ).bind fun r ρ => (evalE b ρ).bind fun s ρ => (match rdc ρ r, rdc ρ s with
    | some x, some y => (match cmpD op x y with | some c => .ok c ρ | none => .stuck)
    | _, _ => .stuck)
  | .cmp2 op op2' a b c, ρ => (evalE a ρ).bind fun r ρ => (evalE b ρ).bind fun s ρ => (match rdc ρ r, rdc ρ s with
    | some x, some y => (match cmpD op x y with
      | some true => (evalE c ρ).bind fun t ρ => (match rdc ρ s, rdc ρ t with
        | some x, some y => (match cmpD op2' x y with | some c => .ok c ρ | none => .stuck)
        | _, _ => .stuck)
      | some false => .ok false ρ
      | none => .stuck)
    | _, _ => .stuck)
  | .call f es, ρ => ((evalEs es ρ).bind fun rs ρ => callD T cl f rs ρ).bind tru1
  | .isi a t, ρ => ((evalE a ρ).bind fun r ρ => op1 (isiD T t) r ρ).bind tru1
  | .bi b es, ρ => ((evalEs es ρ).bind fun rs ρ => bi1 b rs ρ).bind tru1
  | .bin op a b, ρ => ((evalE a ρ).bind fun r ρ => (evalE b ρ).bind fun s ρ => op2 (binD op) r s ρ).bind tru1
  | .att a f, ρ => ((evalE a ρ).bind fun r ρ => op1 (attD T f) r ρ).bind tru1
  | .mth a m es, ρ => ((evalE a ρ).bind fun r ρ => mth1 T m r ρ fun f => (evalEs es ρ).bind fun rs ρ => callD T cl f (r :: rs) ρ).bind tru1
  | .bl b, ρ => .ok b ρ
  | _, _ => .stuck
def evalSrc : Src → Env → Out (List D)
  | .of e, ρ => (evalE e ρ).bind fun r ρ => (match toSrc ρ r with
    | some (d, ρ) => (match itemsD d with | some xs => .ok xs ρ | none => .stuck)
    | none => .stuck)
  | .range1 a, ρ => (evalE a ρ).bind fun r ρ => (match rdc ρ r with
    | some (.int j) => if rngOk j then .ok (iotaD 0 j.toNat) ρ else .stuck
    | _ => .stuck)
  | .range2 a b, ρ => (evalE a ρ).bind fun r ρ => (evalE b ρ).bind fun s ρ => (match rdc ρ r, rdc ρ s with
    | some (.int i), some (.int j) => if rngOk i && rngOk j then .ok (iotaD i (j - i).toNat) ρ else .stuck
    | _, _ => .stuck)
  | .enum a, ρ => (evalE a ρ).bind fun r ρ => (match toSrc ρ r with
    | some (d, ρ) => (match d with | .lst xs => .ok (enumD 0 xs) ρ | _ => .stuck)
    | none => .stuck)
  | .zip a b, ρ => (evalE a ρ).bind fun r ρ => (evalE b ρ).bind fun s ρ => (match toSrc ρ r with
    | some (d, ρ) => (match toSrc ρ s with
      | some (e, ρ) => (match zip2D d e with | some xs => .ok xs ρ | none => .stuck)
      | none => .stuck)
    | none => .stuck)
  | .rev a, ρ => (evalE a ρ).bind fun r ρ => (match toSrc ρ r with
    | some (d, ρ) => (match itemsD d with | some xs => .ok xs.reverse ρ | none => .stuck)
    | none => .stuck)
end
end
def forLoop (bd : D → Env → Option Env) (body : Env → SOut) : List D → Env → SOut
  | [], ρ => .nx ρ
  | x :: xs, ρ => match bd x ρ with
    | none => .stuck
    | some ρ => match body ρ with
      | .nx ρ => forLoop bd body xs ρ
      | .ct ρ => forLoop bd body xs ρ
      | .bk ρ => .nx ρ
      | o => o
def whileLoop (ct : Env → Out Bool) (body : Env → SOut) : Nat → Env → SOut
  | 0, _ => .stuck
  | n + 1, ρ => match ct ρ with
    | .ok true ρ => (match body ρ with
      | .nx ρ => whileLoop ct body n ρ
      | .ct ρ => whileLoop ct body n ρ
      | .bk ρ => .nx ρ
      | o => o)
    | .ok false ρ => .nx ρ
    | .exc x ρ => .exc x ρ
    | .stuck => .stuck
def Out.st {α : Type} (o : Out α) (k : α → Env → SOut) : SOut := match o with
  | .ok a ρ => k a ρ
  | .exc x ρ => .exc x ρ
  | .stuck => .stuck
/-- what is handed back -/
def retR (ρ : Env) : Rv → SOut
  | .val d => .rt (.val d) ρ
  | .own d => .rt (.own d) ρ
  | .bor i => match ρ[i]? with
    | some (.val d) => .rt (.val d) ρ
    | some (.own d) => .rt (.own d) (ρ.set i .un)
    | some (.lk d) => if flatD d then .rt (.val d) ρ else .stuck
    | _ => .stuck
section
variable (T : Tab) (cl : Cl)
mutual
def evalS : Stm → Env → SOut
  | .expr e, ρ => (evalE T cl e ρ).st fun _ ρ => .nx ρ
  | .set i e, ρ => (evalE T cl e ρ).st fun r ρ => (match toVal ρ r with
    | some (d, ρ) => (match asg i (.val d) ρ with | some ρ => .nx ρ | none => .stuck)
    | none => .stuck)
  | .hold i e, ρ => (evalE T cl e ρ).st fun r ρ => (match r with
    | .own d => (match asg i (.own d) ρ with | some ρ => .nx ρ | none => .stuck)
    | .val d => (match asg i (.val d) ρ with | some ρ => .nx ρ | none => .stuck)
    | .bor _ => .stuck)
  | .setsub i k e, ρ => (evalE T cl e ρ).st fun r ρ => if isLst ρ i then (evalE T cl k ρ).st fun s ρ => (match toVal ρ r with
    | some (d, ρ) => (match rdc ρ s, ownAt ρ i with
      | some (.int j), some (.lst xs, c) => (match ixN xs.length j with
        | some n => .nx (ρ.set i (c (.lst (xs.set n d))))
        | none => .stuck)
      | _, _ => .stuck)
    | none => .stuck) else .stuck
  | .setatt i f e, ρ => (evalE T cl e ρ).st fun r ρ => (match toVal ρ r with
    | some (d, ρ) => (match ownAt ρ i with
      | some (.ins C fs, c) => if decide (fs.length < 1000) && (T.flds C).contains f then .nx (ρ.set i (c (.ins C (putD f d fs)))) else .stuck
      | _ => .stuck)
    | none => .stuck)
  | .unpack tg e, ρ => (evalE T cl e ρ).st fun r ρ => (match toVal ρ r with
    | some (d, ρ) => (match bindT tg d ρ with | some ρ => .nx ρ | none => .stuck)
    | none => .stuck)
  | .ite c a b, ρ => (evalT T cl c ρ).st fun k ρ => if k then evalSs a ρ else evalSs b ρ
  | .for_ tg src body, ρ => (evalSrc T cl src ρ).st fun items ρ => forLoop (bindT tg) (evalSs body) items ρ
  | .while_ c body, ρ => whileLoop (evalT T cl c) (evalSs body) T.wf ρ
  | .ret e, ρ => (evalE T cl e ρ).st fun r ρ => retR ρ r
  | .retN, ρ => .rt (.val .non) ρ
  | .raise C es, ρ => (evalEs T cl es ρ).st fun rs ρ => (match toVals rs ρ with
    | some (ds, ρ) => (match T.exf C with
      | some (fs, n) => if ds.length = n then .exc ⟨C, fs.map fun p => (p.1, ds.getD p.2 .non)⟩ ρ else .stuck
      | none => .stuck)
    | none => .stuck)
  | .try_ body cs i h, ρ => (match evalSs body ρ with
    | .exc x ρ => if cs.any (T.esub x.C) then (match i with
        | none => evalSs h ρ
        | some i => (match asg i (.val (.exc x.C x.fs)) ρ with
          | none => .stuck
          | some ρ => (match evalSs h ρ with
            | .nx ρ => .nx (ρ.set i .un)
            | .bk ρ => .bk (ρ.set i .un)
            | .ct ρ => .ct (ρ.set i .un)
            | .rt r ρ => .rt r (ρ.set i .un)
            | o => o)))
      else .exc x ρ
    | o => o)
  | .pass, ρ => .nx ρ
  | .brk, ρ => .bk ρ
  | .cnt, ρ => .ct ρ
  | .never, _ => .stuck
def evalSs : Stms → Env → SOut
  | .nil, ρ => .nx ρ
  | .cons s r, ρ => (match evalS s ρ with
    | .nx ρ => evalSs r ρ
    | o => o)
end
end
/-- what was lent to the def, at its end -/
def outsOf : List Slot → Env → Option (List Slot)
  | [], _ => some []
  | .io _ :: as, .io d :: ρ => (outsOf as ρ).map fun r => .io d :: r
  | .io _ :: _, _ => none
  | _ :: as, _ :: ρ => (outsOf as ρ).map fun r => .un :: r
  | _ :: _, [] => none
def finC (as : List Slot) : SOut → COut
  | .nx ρ => (match outsOf as ρ with | some os => .ret (.val .non) os | none => .stuck)
  | .rt r ρ => (match outsOf as ρ with | some os => .ret r os | none => .stuck)
  | .exc x ρ => (match outsOf as ρ with | some os => .exc x os | none => .stuck)
  | _ => .stuck
def modeOk : List Mode → List Slot → Bool
  | [], [] => true
  | .v :: ms, .val _ :: as => modeOk ms as
  | .r :: ms, .lk _ :: as => modeOk ms as
  | .m :: ms, .io _ :: as => modeOk ms as
  | .o :: ms, .own _ :: as => modeOk ms as
  | _, _ => false
def callF (T : Tab) : Nat → Nat → List Slot → COut
  | 0, _, _ => .stuck
  | n + 1, f, as => match T.fn f with
    | none => .stuck
    | some fd => if modeOk fd.modes as then finC as (evalSs T (callF T n) fd.body (as ++ List.replicate (fd.ns - as.length) .un)) else .stuck
end Wf

/-! Wf: operators over content -/
namespace Wf
open PySem PySem.Spec PyProof.Rows L2

/-- a new value -/
def Res (N : Nm) (F : Addr → Prop) (H : Hp) (o : Bool × D) (Q : VK) : Prop := match o with
  | (false, d) => ∀ v H', Same H H' → Rep N F H' d v → Q v H'
  | (true, d) => ∀ p H', H p = none → Same H H' → ORep N (fun a => F a ∧ a ≠ p) H' p d → Q (.ref p) H'
def FreshF (F : Addr → Prop) (H : Hp) : Prop := ∀ a, H a = none → F a
section
variable {N : Nm} {W : WX} {G : Gh} {σ : Sg} {H H' : Hp} {ρ : Env} {Q : VK} {F : Addr → Prop}
theorem same_new {p : Addr} {o : HO} (h : H p = none) : Same H (upd H p o) := fun b x e => by rw [upd_ne (ne_of_none e h)]; exact e
theorem Rep.same (s : Same H H') {d : D} {v : V} (h : Rep N F H d v) : Rep N F H' d v := h.mon fun a o f e => ⟨f, s a o e⟩
theorem Reps.same (s : Same H H') {d : List D} {v : List V} (h : Reps N F H d v) : Reps N F H' d v := h.mon fun a o f e => ⟨f, s a o e⟩
theorem Reps.avoid {p : Addr} (hn : H p = none) (s : Same H H') {d : List D} {v : List V} (h : Reps N F H d v) : Reps N (fun a => F a ∧ a ≠ p) H' d v :=
  h.mon fun a o f e => ⟨⟨f, ne_of_none e hn⟩, s a o e⟩
theorem RepF.avoid {p : Addr} (hn : H p = none) (s : Same H H') {d : List (Nat × D)} {v : List (Str × V)} (h : RepF N F H d v) : RepF N (fun a => F a ∧ a ≠ p) H' d v :=
  h.mon fun a o f e => ⟨⟨f, ne_of_none e hn⟩, s a o e⟩
theorem StOk.freshF (S : StOk N G σ H ρ) : FreshF (Frz G.Mc σ ρ) H := fun _ h => S.fresh h
theorem OutOk.res (S : StOk N G σ H ρ) {o : Bool × D} (h : OutOk (kE N) W G σ Q (mkRv (some o) ρ)) : Res N (Frz G.Mc σ ρ) H o Q := by
  obtain ⟨b, d⟩ := o
  cases b with
  | false =>
    intro v H' sm r
    have h : OutOk (kE N) W G σ Q (.ok (.val d) ρ) := h
    refine h v H' ?_ ?_ Fresh.no
    · show StOk N (G.add noA) σ H' ρ
      rw [Gh.add_no]; exact S.grow sm
    · show Rep N (Frz (G.add noA).Mc σ ρ) H' d v
      rw [Gh.add_no]; exact r
  | true =>
    intro p H' hn sm r
    have h : OutOk (kE N) W G σ Q (.ok (.own d) ρ) := h
    have hp : H' p ≠ none := by obtain ⟨o, e⟩ := r.there; rw [e]; simp
    have e : ownA (.own d) (.ref p) = fun a => a = p := by
      funext a; show (V.ref p = V.ref a) = (a = p)
      rw [V.ref.injEq]; exact propext ⟨Eq.symm, Eq.symm⟩
    refine h (.ref p) H' ?_ ?_ ?_
    · show StOk N (G.add (ownA (.own d) (.ref p))) σ H' ρ
      rw [e]; exact S.owned hn sm hp
    · show ∃ q, V.ref p = .ref q ∧ (G.add (ownA (.own d) (.ref p))).Mc q ∧ ORep N (Frz (G.add (ownA (.own d) (.ref p))).Mc σ ρ) H' q d
      rw [e]
      refine ⟨p, rfl, .inr rfl, r.mon (fun a o f q => ⟨⟨fun z => ?_, f.1.2⟩, q⟩) fun _ z => z⟩
      rcases z with z | z
      · exact f.1.1 z
      · exact f.2 z
    · show Fresh G (ownA (.own d) (.ref p))
      rw [e]
      intro b hb
      have hb : b = p := hb
      subst hb
      exact ⟨.inl (S.dom _ hn), fun z => S.mc _ z hn, fun z => (S.lk _ z).1 hn⟩
theorem mkRv_some {o : Option (Bool × D)} (h : OutOk (kE N) W G σ Q (mkRv o ρ)) : ∃ x, o = some x := by
  cases o with
  | none => exact h.elim
  | some x => exact ⟨x, rfl⟩
theorem Res.flat {o : Bool × D} (h : Res N F H o Q) {d : D} (e : o = (false, d)) : ∀ v, Rep N F H d v → Q v H := by
  subst e; exact fun v r => h v H (Same.refl H) r
theorem Res.tup {o : Bool × D} (h : Res N F H o Q) (fF : FreshF F H) {ds : List D} {vs : List V} {p : Addr} (e : o = (false, .tup ds)) (r : Reps N F H ds vs) (hn : H p = none) : Q (.ref p) (upd H p (.tup vs)) := by
  subst e
  exact h (.ref p) _ (same_new hn) ⟨p, vs, rfl, fF p hn, upd_same, r.same (same_new hn)⟩
theorem Res.lst {o : Bool × D} (h : Res N F H o Q) {ds : List D} {vs : List V} {p : Addr} (e : o = (true, .lst ds)) (r : Reps N F H ds vs) (hn : H p = none) : Q (.ref p) (upd H p (.lst vs)) := by
  subst e
  exact h p _ hn (same_new hn) ⟨vs, upd_same, r.avoid hn (same_new hn)⟩

theorem Rd1.tupF {ds : List D} {v : V} (h : Rd1 N F H (.tup ds) v) : ∃ a vs, v = .ref a ∧ F a ∧ H a = some (.tup vs) ∧ Reps N F H ds vs := by
  rcases h with h | ⟨a, e, h⟩
  · exact h
  · exact h.elim
theorem Reps.nil_iff {ds : List D} {vs : List V} (r : Reps N F H ds vs) : vs = [] ↔ ds = [] := by
  have := r.length
  constructor
  · intro e; subst e; exact List.eq_nil_of_length_eq_zero this
  · intro e; subst e; exact r
/-- two results, then a rule by values -/
def rD (N : Nm) (f : D → D → Option (Bool × D)) : R2 := fun x y H Q => ∃ F dx dy o, FreshF F H ∧ Rd1 N F H dx x ∧ Rd1 N F H dy y ∧ f dx dy = some o ∧ Res N F H o Q
theorem bin_read {fa fb : Env → Out Rv} {f : D → D → Option (Bool × D)} (h : tE N W (fun ρ => (fa ρ).bind fun r ρ => (fb ρ).bind fun s ρ => op2 f r s ρ) σ H Q) : tOp (rD N f) (tE N W fa) (tE N W fb) σ H Q := by
  obtain ⟨G, ρ, S, h⟩ := h
  refine tK_then (L := kE N) S h fun r ρ1 x H1 S1 k1 fr1 h1 => tK_then (L := kE N) S1 h1 fun s ρ2 y H2 S2 k2 fr2 h2 => ?_
  have k1 := RvOk.later S1 S2 fr2 k1
  unfold op2 at h2
  split at h2
  · rename_i dx dy ex ey
    obtain ⟨o, eo⟩ := mkRv_some h2
    rw [eo] at h2
    exact ⟨_, dx, dy, o, S2.freshF, k1.rd S2 ex, RvOk.rd S2 k2 ey, eo, h2.res S2⟩
  · exact h2.elim
def rD1 (N : Nm) (f : D → Option (Bool × D)) : V → Hp → VK → Prop := fun x H Q => ∃ F dx o, FreshF F H ∧ Rd1 N F H dx x ∧ f dx = some o ∧ Res N F H o Q
theorem un_read {fa : Env → Out Rv} {f : D → Option (Bool × D)} (h : tE N W (fun ρ => (fa ρ).bind fun r ρ => op1 f r ρ) σ H Q) : tE N W fa σ H fun x H1 => rD1 N f x H1 Q := by
  obtain ⟨G, ρ, S, h⟩ := h
  refine tK_then (L := kE N) S h fun r ρ1 x H1 S1 k1 fr1 h1 => ?_
  unfold op1 at h1
  split at h1
  · rename_i dx ex
    obtain ⟨o, eo⟩ := mkRv_some h1
    rw [eo] at h1
    exact ⟨_, dx, o, S1.freshF, RvOk.rd S1 k1 ex, eo, h1.res S1⟩
  · exact h1.elim
end

/-! ### the operators -/
section
variable {X : Cx} {N : Nm}
theorem smallI_ok {i : Int} (h : smallI i = true) : -(2 ^ 64) < i ∧ i < 2 ^ 64 := of_decide_eq_true h
theorem reps_rep {F : Addr → Prop} {H : Hp} {ds : List D} {vs : List V} (h : Reps N F H ds vs) : ∀ k : Nat, Reps N F H (List.replicate k ds).flatten (List.replicate k vs).flatten
  | 0 => rfl
  | k + 1 => by
    rw [List.replicate_succ, List.replicate_succ, List.flatten_cons, List.flatten_cons]
    exact h.append (reps_rep h k)
theorem op_bin (op : Operator) : OpR X (binaryOp op) (rD N (binD op)) := by
  intro pins s σ H x y v u Q I rx ry ⟨F, dx, dy, o, fF, ax, ay, e, q⟩
  unfold binD at e
  split at e
  · cases e; cases ax.int; cases ay.int
    exact op_add pins s σ H _ _ v u Q I rx ry ⟨_, _, rfl, rfl, q.flat rfl _ rfl⟩
  · cases e; cases ax.int; cases ay.int
    exact op_sub pins s σ H _ _ v u Q I rx ry ⟨_, _, rfl, rfl, q.flat rfl _ rfl⟩
  · split at e
    · rename_i hm
      cases e; cases ax.int; cases ay.int
      unfold mulOk at hm
      simp only [Bool.or_eq_true] at hm
      rcases hm with (hm | hm) | hm
      · exact op_mul pins s σ H _ _ v u Q I rx ry ⟨_, _, rfl, rfl, .inl (smallI_ok hm), q.flat rfl _ rfl⟩
      · exact op_mul pins s σ H _ _ v u Q I rx ry ⟨_, _, rfl, rfl, .inr (smallI_ok hm), q.flat rfl _ rfl⟩
      · exact op_mulX pins s σ H _ _ v u Q I rx ry ⟨_, _, rfl, rfl, (by have z := of_decide_eq_true hm; exact z), q.flat rfl _ rfl⟩
    · cases e
  · split at e
    · rename_i hm
      cases e; cases ax.int; cases ay.int
      unfold divOk at hm
      simp only [Bool.and_eq_true, decide_eq_true_eq] at hm
      exact op_fdivW pins s σ H _ _ v u Q I rx ry ⟨_, _, rfl, rfl, ⟨hm.1, hm.2⟩, q.flat rfl _ rfl⟩
    · split at e
      · rename_i hm
        cases e; cases ax.int; cases ay.int
        unfold ndivOk at hm
        simp only [Bool.and_eq_true, decide_eq_true_eq] at hm
        exact op_fdivN pins s σ H _ _ v u Q I rx ry ⟨_, _, rfl, rfl, ⟨by omega, hm.2⟩, q.flat rfl _ rfl⟩
      · cases e
  · split at e
    · rename_i hm
      cases e; cases ax.int; cases ay.int
      exact op_mod pins s σ H _ _ v u Q I rx ry ⟨_, _, rfl, rfl, of_decide_eq_true hm, q.flat rfl _ rfl⟩
    · cases e
  · split at e
    · rename_i hm
      cases e; cases ax.int; cases ay.int
      unfold powOk at hm
      simp only [Bool.and_eq_true, decide_eq_true_eq] at hm
      have := smallI_ok hm.2
      exact op_pow pins s σ H _ _ v u Q I rx ry ⟨_, _, rfl, rfl, ⟨hm.1.1, hm.1.2, by omega⟩, q.flat rfl _ rfl⟩
    · cases e
  · split at e
    · rename_i hm
      cases e; cases ax.int; cases ay.int
      unfold powOk at hm
      simp only [Bool.and_eq_true, decide_eq_true_eq] at hm
      have := smallI_ok hm.2
      exact op_shl pins s σ H _ _ v u Q I rx ry ⟨_, _, rfl, rfl, ⟨hm.1.1, hm.1.2, by omega⟩, q.flat rfl _ rfl⟩
    · cases e
  · split at e
    · rename_i hm
      cases e; cases ax.int; cases ay.int
      exact op_shr pins s σ H _ _ v u Q I rx ry ⟨_, _, rfl, rfl, of_decide_eq_true hm, q.flat rfl _ rfl⟩
    · cases e
  · cases e; cases ax.int; cases ay.int
    exact op_and pins s σ H _ _ v u Q I rx ry ⟨_, _, rfl, rfl, q.flat rfl _ rfl⟩
  · cases e; cases ax.int; cases ay.int
    exact op_or pins s σ H _ _ v u Q I rx ry ⟨_, _, rfl, rfl, q.flat rfl _ rfl⟩
  · cases e; cases ax.int; cases ay.int
    exact op_xor pins s σ H _ _ v u Q I rx ry ⟨_, _, rfl, rfl, q.flat rfl _ rfl⟩
  · split at e
    · rename_i hm
      cases e; cases ax.str; cases ay.str
      exact op_add_str pins s σ H _ _ v u Q I rx ry ⟨_, _, rfl, rfl, of_decide_eq_true hm, q.flat rfl _ rfl⟩
    · cases e
  · split at e
    · rename_i hm
      cases e
      obtain ⟨a, vs, rfl, ha, ra⟩ := ax.lst
      obtain ⟨b, us, rfl, hb, rb⟩ := ay.lst
      refine op_cat pins s σ H _ _ v u Q I rx ry ⟨a, b, vs, us, rfl, rfl, ha, hb, ?_, fun p hn => q.lst rfl (ra.append rb) hn⟩
      rw [← ra.length, ← rb.length]; exact of_decide_eq_true hm
    · cases e
  · split at e
    · rename_i hm
      cases e
      obtain ⟨a, vs, rfl, ha, ra⟩ := ax.lst
      cases ay.int
      obtain ⟨h1, h2, h3⟩ := of_decide_eq_true hm
      refine op_rep pins s σ H _ _ v u Q I rx ry ⟨a, _, vs, rfl, rfl, ha, h1, h2, by rw [← ra.length]; exact h3, fun p hn => q.lst rfl (reps_rep ra _) hn⟩
    · cases e
  · split at e
    · rename_i hm
      cases e
      obtain ⟨a, vs, rfl, fa, ha, ra⟩ := ax.tupF
      obtain ⟨b, us, rfl, fb, hb, rb⟩ := ay.tupF
      refine op_catA pins s σ H _ _ v u Q I rx ry ⟨a, b, vs, us, rfl, rfl, .of ha, .of hb, ?_, fun e => ?_, fun e e' => ?_, fun _ _ p hn => q.tup fF rfl (ra.append rb) hn⟩
      · rw [← ra.length, ← rb.length]; exact of_decide_eq_true hm
      · subst e
        have e0 := ra.nil_iff.mp rfl
        subst e0
        exact q.flat rfl _ ⟨b, us, rfl, fb, hb, rb⟩
      · subst e'
        have e0 := rb.nil_iff.mp rfl
        subst e0
        refine q.flat rfl _ ⟨a, vs, rfl, fa, ha, ?_⟩
        rw [List.append_nil]; exact ra
    · cases e
  · cases e
end
end Wf

/-! Wf: any of ints -/
namespace Wf
open PySem PySem.Spec PyProof.Rows L2
theorem truth_ints {prog : Program} {w : World} {A : Around} {ns : List Int} {its : List Value} (e : Vals (ns.map V.int) its) :
    TruthOf prog w A (fun i v => its.toArray[i]? = some v) (fun i => (ns.map fun n => n != 0).getD i false) := fun i v s Q E hv hq => by
  have hv1 : its[i]? = some v := by simpa using hv
  have hi : i < ns.length := by
    have h1 := (List.getElem?_eq_some_iff.mp hv1).1
    have h2 := e.length
    rw [List.length_map] at h2
    omega
  have hx : (ns.map V.int)[i]? = some (.int ns[i]) := by rw [List.getElem?_map, List.getElem?_eq_getElem hi]; rfl
  obtain ⟨u, hu, ru⟩ := e.get hx
  rw [hv1] at hu; cases hu
  obtain ⟨t, rfl⟩ := ru
  have hg : (ns.map fun n => n != 0).getD i false = (ns[i] != 0) := by
    rw [List.getD_eq_getElem?_getD, List.getElem?_map, List.getElem?_eq_getElem hi]; rfl
  have hq2 : Q ((ns.map fun n => n != 0).getD i false) s := hq
  rw [hg] at hq2
  exact PyProof.Rows.truthy_int hq2
theorem any_rangeB (bs : List Bool) : (List.range bs.length).any (fun i => bs.getD i false) = bs.any _root_.id := any_range bs
theorem cr_anyI {X : Cx} (hc : X.calm = true) : CallR X (.builtin "any") (fun vs H Q => ∃ (a : Addr) (ns : List Int), vs = [.ref a] ∧ SqL X.K H a (ns.map V.int) ∧ Q (.bl (ns.any fun n => n != 0)) H) := by
  intro pins s σ H vs us Q I r ⟨a, ns, ev, hs, q⟩
  subst ev
  obtain ⟨its, rv, hl, _⟩ := I.list hs
  rw [Vals.ref1 r]
  have hlen := rv.length
  rw [List.length_map] at hlen
  refine call_any_walk (iter_any hl.isList fun s2 e2 st hne => ?_)
  subst e2
  refine ⟨_, _, _, _, _, _, _, rfl, Walks.list (A := X.A.in1) (I.ok.hd hc) _ a hne its.toArray, st, truth_ints rv, fun h2 tk hk => ⟨.bl (ns.any fun n => n != 0), H, I.kept fun b o eo => hk b o (fun hm => ?_) (Heap.get?_push_of_some _ eo), ?_, q⟩⟩
  · rcases List.mem_cons.mp hm with e1 | hm
    · exact Nat.lt_irrefl _ (e1 ▸ Heap.lt_size eo)
    · cases hm
  · show Value.bool _ = Value.bool _
    have := any_rangeB (ns.map fun n => n != 0)
    rw [List.length_map, List.any_map] at this
    rw [List.size_toArray, ← hlen, this]
    rfl
end Wf

/-! Wf: comparisons, subscripts, slices, built-ins over content -/
namespace Wf
open PySem PySem.Spec PyProof.Rows L2
section
variable {X : Cx} {N : Nm} {F : Addr → Prop} {H : Hp}
mutual
theorem dp_of {K : PySem.W.Frag} : ∀ (d : D) (v : V) (p : PyData), Rep N F H d v → toPy d = some p → Dp K H v p
  | .non, _, _, h, e => by cases e; cases h; exact .non
  | .bl _, _, _, h, e => by cases e; cases h; exact .bl _
  | .int _, _, _, h, e => by cases e; cases h; exact .int _
  | .str _, _, _, h, e => by cases e; cases h; exact .str _
  | .tup ds, _, _, ⟨a, vs, ev, _, ha, r⟩, e => by
    subst ev
    unfold toPy at e
    cases q : toPys ds with
    | none => rw [q] at e; cases e
    | some ps => rw [q] at e; cases e; exact .tup (.of ha) (dps_of ds vs ps r q)
  | .lst ds, _, _, ⟨a, vs, ev, _, ha, r⟩, e => by
    subst ev
    unfold toPy at e
    cases q : toPys ds with
    | none => rw [q] at e; cases e
    | some ps => rw [q] at e; cases e; exact .lst (.of ha) (dps_of ds vs ps r q)
  | .dic _, _, _, _, e => by unfold toPy at e; cases e
  | .dit _, _, _, _, e => by unfold toPy at e; cases e
  | .ins _ _, _, _, _, e => by unfold toPy at e; cases e
  | .exc _ _, _, _, _, e => by unfold toPy at e; cases e
  | .scr _, _, _, _, e => by unfold toPy at e; cases e
theorem dps_of {K : PySem.W.Frag} : ∀ (ds : List D) (vs : List V) (ps : List PyData), Reps N F H ds vs → toPys ds = some ps → DpAll K H vs ps
  | [], _, _, h, e => by cases e; cases h; exact .nil
  | d :: ds, _, _, ⟨v, r, ev, h, t⟩, e => by
    subst ev
    unfold toPys at e
    cases q : toPy d with
    | none => rw [q] at e; cases e
    | some p =>
      rw [q] at e
      cases q2 : toPys ds with
      | none => rw [q2] at e; cases e
      | some ps => rw [q2] at e; cases e; exact .cons (dp_of d v p h q) (dps_of ds r ps t q2)
end
theorem dp_rd {K : PySem.W.Frag} {d : D} {v : V} {p : PyData} (h : Rd1 N F H d v) (e : toPy d = some p) : Dp K H v p := by
  rcases h with h | ⟨a, ev, h⟩
  · exact dp_of d v p h e
  · subst ev
    cases d <;> first | exact h.elim | skip
    · obtain ⟨vs, ha, r⟩ := h
      unfold toPy at e
      rename_i ds
      cases q : toPys ds with
      | none => rw [q] at e; cases e
      | some ps => rw [q] at e; cases e; exact .lst (.of ha) (dps_of ds vs ps r q)
    · unfold toPy at e; cases e
    · unfold toPy at e; cases e
    · unfold toPy at e; cases e
theorem eqD_some {x y : D} {b : Bool} (h : eqD x y = some b) : ∃ p q, toPy x = some p ∧ toPy y = some q ∧ SeqAt.shaped p = true ∧ SeqAt.shaped q = true ∧ b = PyData.eqv p q := by
  unfold eqD at h
  cases e1 : toPy x with
  | none => rw [e1] at h; cases h
  | some p =>
    rw [e1] at h
    cases e2 : toPy y with
    | none => rw [e2] at h; cases h
    | some q =>
      rw [e2] at h
      simp only [Option.bind_some] at h
      split at h
      · rename_i hs
        rw [Bool.and_eq_true] at hs
        cases h
        exact ⟨p, q, rfl, rfl, hs.1, hs.2, rfl⟩
      · cases h
theorem Rd1.flatV {d : D} {v : V} (f : flatD d = true) (h : Rd1 N F H d v) : flatV v = true := by
  cases d <;> first | (cases h.non; rfl) | (cases h.bl; rfl) | (cases h.int; rfl) | (cases h.str; rfl) | cases f
theorem eqF_V {d e : D} {v w : V} (fd : flatD d = true) (fe : flatD e = true) (hd : Rd1 N F H d v) (he : Rd1 N F H e w) : eqF d e = eqV v w := by
  cases d <;> (first | cases hd.non | cases hd.bl | cases hd.int | cases hd.str | cases fd) <;> cases e <;> (first | cases he.non | cases he.bl | cases he.int | cases he.str | cases fe) <;> rfl
theorem any_eqF {x : D} {w : V} (fx : flatD x = true) (hx : Rd1 N F H x w) : ∀ {ds : List D} {vs : List V}, ds.all flatD = true → Reps N F H ds vs → (vs.all flatV = true ∧ (ds.any fun y => eqF y x) = inV w vs)
  | [], _, _, h => by cases h; exact ⟨rfl, rfl⟩
  | d :: ds, _, f, ⟨v, r, ev, h, t⟩ => by
    subst ev
    rw [List.all_cons, Bool.and_eq_true] at f
    obtain ⟨q1, q2⟩ := any_eqF fx hx f.2 t
    refine ⟨by rw [List.all_cons, Rd1.flatV f.1 (.inl h), q1]; rfl, ?_⟩
    rw [List.any_cons, q2, eqF_V f.1 fx (.inl h) hx]; rfl
theorem RepK.length : ∀ {ds : List (Key × D)} {vs : List (Key × V)}, RepK N F H ds vs → ds.length = vs.length
  | [], _, h => by cases h; rfl
  | (_, _) :: ds, _, ⟨_, _, e, _, t⟩ => by subst e; simp [RepK.length t]
theorem isN_rd {d : D} {v : V} (h : Rd1 N F H d v) : isN d = decide (v = .non) := by
  cases d <;> (first | (cases h.non; rfl) | (cases h.bl; rfl) | (cases h.int; rfl) | (cases h.str; rfl) | skip)
  all_goals
    rcases h with h | ⟨a, e, h⟩
    · first | (obtain ⟨a, vs, e, _⟩ := h; subst e; rfl) | (obtain ⟨a, _, _, vs, e, _⟩ := h; subst e; rfl) | (obtain ⟨a, e, _⟩ := h; subst e; rfl) | exact False.elim h
    · subst e; rfl
theorem decV {i j : Int} : decide (V.int i = V.int j) = decide (i = j) := by
  have : (V.int i = V.int j) = (i = j) := by rw [V.int.injEq]
  simp only [this]
theorem op_cmpD (hu : X.A.units + 64 < cLine) (op : CmpOp) : OpR X (compareOp op) (rD N (cmp2D op)) := by
  intro pins s σ H x y v u Q I rx ry ⟨F, dx, dy, o, fF, ax, ay, e, q⟩
  have e : (cmpD op dx dy).map (fun c => (false, D.bl c)) = some o := e
  cases ec : cmpD op dx dy with
  | none => rw [ec] at e; cases e
  | some c =>
    rw [ec] at e; cases e
    have q : Q (.bl c) H := q.flat rfl _ rfl
    unfold cmpD at ec
    split at ec
    · cases ec; cases ax.int; cases ay.int
      exact op_lt pins s σ H _ _ v u Q I rx ry ⟨_, _, rfl, rfl, q⟩
    · cases ec; cases ax.int; cases ay.int
      exact op_le pins s σ H _ _ v u Q I rx ry ⟨_, _, rfl, rfl, q⟩
    · cases ec; cases ax.int; cases ay.int
      exact op_gt pins s σ H _ _ v u Q I rx ry ⟨_, _, rfl, rfl, q⟩
    · cases ec; cases ax.int; cases ay.int
      exact op_ge pins s σ H _ _ v u Q I rx ry ⟨_, _, rfl, rfl, q⟩
    · cases ec; cases ax.int; cases ay.int
      refine op_eq pins s σ H _ _ v u Q I rx ry ⟨rfl, ?_⟩
      rw [decV]; exact q
    · cases ec; cases ax.int; cases ay.int
      refine op_ne pins s σ H _ _ v u Q I rx ry ⟨rfl, ?_⟩
      rw [decV]; exact q
    · obtain ⟨p, p2, e1, e2, s1, s2, rfl⟩ := eqD_some ec
      exact op_eqD hu pins s σ H _ _ v u Q I rx ry ⟨p, p2, dp_rd ax e1, dp_rd ay e2, s1, s2, q⟩
    · cases ed : eqD dx dy with
      | none => rw [ed] at ec; cases ec
      | some b =>
        rw [ed] at ec; cases ec
        obtain ⟨p, p2, e1, e2, s1, s2, rfl⟩ := eqD_some ed
        exact op_neD hu pins s σ H _ _ v u Q I rx ry ⟨p, p2, dp_rd ax e1, dp_rd ay e2, s1, s2, q⟩
    · cases ec; cases ay.non
      rw [isN_rd ax] at q
      exact op_isN pins s σ H _ _ v u Q I rx ry ⟨rfl, q⟩
    · cases ec; cases ay.non
      have z := isN_rd ax
      refine op_notN pins s σ H _ _ v u Q I rx ry ⟨rfl, ?_⟩
      rw [← z]; exact q
    · split at ec
      · rename_i hf
        rw [Bool.and_eq_true] at hf
        cases ec
        obtain ⟨a, vs, rfl, ha, ra⟩ := ay.tup
        obtain ⟨q1, q2⟩ := any_eqF hf.1 ax hf.2 ra
        rw [q2] at q
        exact op_in_seq pins s σ H _ _ v u Q I rx ry ⟨a, vs, rfl, .inr (.of ha), Rd1.flatV hf.1 ax, q1, q⟩
      · cases ec
    · split at ec
      · rename_i hf
        rw [Bool.and_eq_true] at hf
        cases ec
        obtain ⟨a, vs, rfl, ha, ra⟩ := ay.lst
        obtain ⟨q1, q2⟩ := any_eqF hf.1 ax hf.2 ra
        rw [q2] at q
        exact op_in_seq pins s σ H _ _ v u Q I rx ry ⟨a, vs, rfl, .inl (.of ha), Rd1.flatV hf.1 ax, q1, q⟩
      · cases ec
    · split at ec
      · rename_i hf
        rw [Bool.and_eq_true] at hf
        cases ec
        obtain ⟨a, vs, rfl, ha, ra⟩ := ay.tup
        obtain ⟨q1, q2⟩ := any_eqF hf.1 ax hf.2 ra
        rw [q2] at q
        exact op_notIn_seq pins s σ H _ _ v u Q I rx ry ⟨a, vs, rfl, .inr (.of ha), Rd1.flatV hf.1 ax, q1, q⟩
      · cases ec
    · split at ec
      · rename_i hf
        rw [Bool.and_eq_true] at hf
        cases ec
        obtain ⟨a, vs, rfl, ha, ra⟩ := ay.lst
        obtain ⟨q1, q2⟩ := any_eqF hf.1 ax hf.2 ra
        rw [q2] at q
        exact op_notIn_seq pins s σ H _ _ v u Q I rx ry ⟨a, vs, rfl, .inl (.of ha), Rd1.flatV hf.1 ax, q1, q⟩
      · cases ec
    · cases ec

/-! ### subscripts -/
theorem atI_reps {ds : List D} {vs : List V} {i : Int} {d : D} (r : Reps N F H ds vs) (e : atI ds i = some d) : ∃ v, atI vs i = some v ∧ Rep N F H d v := by
  unfold atI at e ⊢
  rw [← r.length]
  cases q : ixN ds.length i with
  | none => rw [q] at e; cases e
  | some j => rw [q] at e; exact r.get e
/-- a subscript by values: lists, tuples, texts -/
theorem ix_sub : IxR X (rD N sub2) := by
  intro value slice pins s σ H x y v u Q I rx ry ⟨F, dx, dy, o, fF, ax, ay, e, q⟩ hs
  have e0 : (subD dx dy).map (fun d => (false, d)) = some o ∧ ∀ k, dx ≠ .dic k := by
    cases dx <;> first | exact ⟨e, fun k z => by cases z⟩ | cases e
  obtain ⟨e, nd⟩ := e0
  cases ec : subD dx dy with
  | none => rw [ec] at e; cases e
  | some c =>
    rw [ec] at e; cases e
    unfold subD at ec
    split at ec
    · obtain ⟨a, vs, rfl, ha, ra⟩ := ax.lst
      cases ay.int
      obtain ⟨w, ew, rw'⟩ := atI_reps ra ec
      exact ix_list value slice pins s σ H _ _ v u Q I rx ry ⟨a, vs, _, w, rfl, rfl, .of ha, ew, q.flat rfl _ rw'⟩ hs
    · obtain ⟨a, vs, rfl, ha, ra⟩ := ax.tup
      cases ay.int
      obtain ⟨w, ew, rw'⟩ := atI_reps ra ec
      exact ix_tup value slice pins s σ H _ _ v u Q I rx ry ⟨a, vs, _, w, rfl, rfl, .of ha, ew, q.flat rfl _ rw'⟩ hs
    · exact absurd rfl (nd _)
    · exact absurd rfl (nd _)
    · split at ec
      · rename_i hz
        cases ax.str; cases ay.int
        rename_i z k
        cases eq : atI z.cps.toList k with
        | none => rw [eq] at ec; cases ec
        | some c' =>
          rw [eq] at ec; cases ec
          exact ix_str value slice pins s σ H _ _ v u Q I rx ry ⟨z, k, c', rfl, rfl, of_decide_eq_true hz, eq, q.flat rfl _ rfl⟩ hs
      · cases ec
    · cases ec

/-! ### built-ins -/
theorem reps_ints {ds : List D} {is : List Int} {vs : List V} (e : intsD ds = some is) (r : Reps N F H ds vs) : vs = is.map V.int := by
  induction ds generalizing is vs with
  | nil => cases e; exact r
  | cons d ds ih =>
    obtain ⟨v, w, ev, h, t⟩ := r
    subst ev
    cases d <;> first | (unfold intsD at e; cases e; done) | skip
    unfold intsD at e
    cases q : intsD ds with
    | none => rw [q] at e; cases e
    | some js =>
      rw [q] at e; cases e
      cases h
      rw [ih q t]; rfl
theorem reps_bls {ds : List D} {is : List Bool} {vs : List V} (e : blsD ds = some is) (r : Reps N F H ds vs) : vs = is.map V.bl := by
  induction ds generalizing is vs with
  | nil => cases e; exact r
  | cons d ds ih =>
    obtain ⟨v, w, ev, h, t⟩ := r
    subst ev
    cases d <;> first | (unfold blsD at e; cases e; done) | skip
    unfold blsD at e
    cases q : blsD ds with
    | none => rw [q] at e; cases e
    | some js =>
      rw [q] at e; cases e
      cases h
      rw [ih q t]; rfl
theorem foldl_max_mem : ∀ (r : List Int) (a : Int), (r.foldl max a = a ∨ r.foldl max a ∈ r) ∧ a ≤ r.foldl max a ∧ ∀ y ∈ r, y ≤ r.foldl max a
  | [], a => ⟨.inl rfl, Int.le_refl _, fun _ h => by cases h⟩
  | b :: r, a => by
    obtain ⟨h1, h2, h3⟩ := foldl_max_mem r (max a b)
    rw [List.foldl_cons]
    refine ⟨?_, by omega, fun y hy => ?_⟩
    · rcases h1 with h1 | h1
      · rw [h1]
        rcases Int.le_total a b with z | z
        · right; rw [Int.max_eq_right z]; exact List.mem_cons_self
        · left; exact Int.max_eq_left z
      · right; exact List.mem_cons_of_mem _ h1
    · rcases List.mem_cons.mp hy with rfl | hy
      · omega
      · exact h3 y hy
theorem foldl_min_mem : ∀ (r : List Int) (a : Int), (r.foldl min a = a ∨ r.foldl min a ∈ r) ∧ r.foldl min a ≤ a ∧ ∀ y ∈ r, r.foldl min a ≤ y
  | [], a => ⟨.inl rfl, Int.le_refl _, fun _ h => by cases h⟩
  | b :: r, a => by
    obtain ⟨h1, h2, h3⟩ := foldl_min_mem r (min a b)
    rw [List.foldl_cons]
    refine ⟨?_, by omega, fun y hy => ?_⟩
    · rcases h1 with h1 | h1
      · rw [h1]
        rcases Int.le_total a b with z | z
        · left; exact Int.min_eq_left z
        · right; rw [Int.min_eq_right z]; exact List.mem_cons_self
      · right; exact List.mem_cons_of_mem _ h1
    · rcases List.mem_cons.mp hy with rfl | hy
      · omega
      · exact h3 y hy
theorem maxI_eq {is : List Int} {m k : Int} (e : maxI is = some k) (h1 : m ∈ is) (h2 : ∀ y ∈ is, y ≤ m) : m = k := by
  cases is with
  | nil => cases e
  | cons a r =>
    cases e
    obtain ⟨q1, q2, q3⟩ := foldl_max_mem r a
    have z1 : r.foldl max a ≤ m := by
      rcases q1 with q1 | q1
      · rw [q1]; exact h2 _ List.mem_cons_self
      · exact h2 _ (List.mem_cons_of_mem _ q1)
    have z2 : m ≤ r.foldl max a := by
      rcases List.mem_cons.mp h1 with e | e
      · rw [e]; exact q2
      · exact q3 _ e
    omega
theorem minI_eq {is : List Int} {m k : Int} (e : minI is = some k) (h1 : m ∈ is) (h2 : ∀ y ∈ is, m ≤ y) : m = k := by
  cases is with
  | nil => cases e
  | cons a r =>
    cases e
    obtain ⟨q1, q2, q3⟩ := foldl_min_mem r a
    have z1 : m ≤ r.foldl min a := by
      rcases q1 with q1 | q1
      · rw [q1]; exact h2 _ List.mem_cons_self
      · exact h2 _ (List.mem_cons_of_mem _ q1)
    have z2 : r.foldl min a ≤ m := by
      rcases List.mem_cons.mp h1 with e | e
      · rw [e]; exact q2
      · exact q3 _ e
    omega
/-- arguments for reading -/
def Rds (N : Nm) (F : Addr → Prop) (H : Hp) : List D → List V → Prop
  | [], vs => vs = []
  | d :: ds, vs => ∃ v r, vs = v :: r ∧ Rd1 N F H d v ∧ Rds N F H ds r
def rB (N : Nm) (b : Bi) : List V → Hp → VK → Prop := fun vs H Q => ∃ F ds o, FreshF F H ∧ Rds N F H ds vs ∧ biD b ds = some o ∧ Res N F H o Q
def biVal : Bi → Value
  | .len => .builtin "len" | .tuple => .type "tuple" | .list => .type "list" | .int => .type "int" | .bool => .type "bool"
  | .sum => .builtin "sum" | .min => .builtin "min" | .max => .builtin "max" | .any => .builtin "any" | .all => .builtin "all"
  | .abs => .builtin "abs" | .sorted => .builtin "sorted" | .gcd => .builtin "math.gcd" | .str => .type "str" | .dict => .type "dict" | .set => .type "set"
theorem call_bi (hc : X.calm = true) (b : Bi) : CallR X (biVal b) (rB N b) := by
  intro pins s σ H xs us Q I r ⟨F, ds, o, fF, hs, e, q⟩
  unfold biD at e
  split at e
  · cases e; obtain ⟨v, _, rfl, h, rfl⟩ := hs
    obtain ⟨a, vs, rfl, ha, ra⟩ := h.lst
    have q : Q (.int _) H := q.flat rfl _ rfl
    rw [ra.length] at q
    exact call_len pins s σ H _ us Q I r ⟨_, _, rfl, .inl ⟨vs, .of ha, rfl⟩, q⟩
  · cases e; obtain ⟨v, _, rfl, h, rfl⟩ := hs
    obtain ⟨a, vs, rfl, ha, ra⟩ := h.tup
    have q : Q (.int _) H := q.flat rfl _ rfl
    rw [ra.length] at q
    exact call_len pins s σ H _ us Q I r ⟨_, _, rfl, .inr ⟨vs, .of ha, rfl⟩, q⟩
  · cases e; obtain ⟨v, _, rfl, h, rfl⟩ := hs
    obtain ⟨a, vs, rfl, ha, ra⟩ := h.dic
    have q : Q (.int _) H := q.flat rfl _ rfl
    rw [ra.length] at q
    exact call_lenD pins s σ H _ us Q I r ⟨a, vs, rfl, ha, q⟩
  · split at e
    · rename_i hz
      cases e; obtain ⟨v, _, rfl, h, rfl⟩ := hs
      cases h.str
      exact call_len pins s σ H _ us Q I r ⟨_, _, rfl, ⟨of_decide_eq_true hz, rfl⟩, q.flat rfl _ rfl⟩
    · cases e
  · cases e; obtain ⟨v, _, rfl, h, rfl⟩ := hs
    obtain ⟨a, vs, rfl, ha, ra⟩ := h.lst
    exact call_tuple_of pins s σ H _ us Q I r ⟨a, vs, rfl, .inl ⟨.of ha, fun l hl => q.tup fF rfl ra hl⟩⟩
  · cases e; obtain ⟨v, _, rfl, h, rfl⟩ := hs
    obtain ⟨a, vs, rfl, fa, ha, ra⟩ := h.tupF
    exact call_tuple_of pins s σ H _ us Q I r ⟨a, vs, rfl, .inr ⟨.of ha, q.flat rfl _ ⟨a, vs, rfl, fa, ha, ra⟩⟩⟩
  · cases e; obtain ⟨v, _, rfl, h, rfl⟩ := hs
    obtain ⟨a, vs, rfl, ha, ra⟩ := h.lst
    exact call_list_of pins s σ H _ us Q I r ⟨a, vs, rfl, .inl (.of ha), fun l hl => q.lst rfl ra hl⟩
  · cases e; obtain ⟨v, _, rfl, h, rfl⟩ := hs
    obtain ⟨a, vs, rfl, ha, ra⟩ := h.tup
    exact call_list_of pins s σ H _ us Q I r ⟨a, vs, rfl, .inr (.of ha), fun l hl => q.lst rfl ra hl⟩
  · cases e; obtain ⟨v, _, rfl, h, rfl⟩ := hs
    cases h.int
    exact call_int1 pins s σ H _ us Q I r (.inl ⟨_, rfl, q.flat rfl _ rfl⟩)
  · cases e; obtain ⟨v, _, rfl, h, rfl⟩ := hs
    cases h.bl
    exact call_int1 pins s σ H _ us Q I r (.inr ⟨_, rfl, q.flat rfl _ rfl⟩)
  · cases e; obtain ⟨v, _, rfl, h, rfl⟩ := hs
    cases h.int
    exact call_bool1 pins s σ H _ us Q I r (.inl ⟨_, rfl, q.flat rfl _ rfl⟩)
  · cases e; obtain ⟨v, _, rfl, h, rfl⟩ := hs
    cases h.bl
    exact call_bool1 pins s σ H _ us Q I r (.inr ⟨_, rfl, q.flat rfl _ rfl⟩)
  · cases e; obtain ⟨v, _, rfl, h, rfl⟩ := hs
    cases h.int
    exact call_abs pins s σ H _ us Q I r ⟨_, rfl, q.flat rfl _ rfl⟩
  · cases e; obtain ⟨v, _, rfl, h, w, _, rfl, h2, rfl⟩ := hs
    cases h.int; cases h2.int
    exact call_max2 hc pins s σ H _ us Q I r ⟨_, _, rfl, q.flat rfl _ rfl⟩
  · cases e; obtain ⟨v, _, rfl, h, w, _, rfl, h2, rfl⟩ := hs
    cases h.int; cases h2.int
    exact call_min2 hc pins s σ H _ us Q I r ⟨_, _, rfl, q.flat rfl _ rfl⟩
  · cases e; obtain ⟨v, _, rfl, h, w, _, rfl, h2, rfl⟩ := hs
    cases h.int; cases h2.int
    exact cr_gcd pins s σ H _ us Q I r ⟨_, _, rfl, q.flat rfl _ rfl⟩
  · obtain ⟨v, _, rfl, h, rfl⟩ := hs
    obtain ⟨a, vs, rfl, ha, ra⟩ := h.lst
    rename_i ds
    cases ei : intsD ds with
    | none => rw [ei] at e; cases e
    | some is =>
      rw [ei] at e; cases e
      have ev := reps_ints ei ra
      subst ev
      exact cr_sum hc pins s σ H _ us Q I r ⟨a, is, rfl, .of ha, q.flat rfl _ rfl⟩
  · obtain ⟨v, _, rfl, h, rfl⟩ := hs
    obtain ⟨a, vs, rfl, ha, ra⟩ := h.lst
    rename_i ds
    cases ei : intsD ds with
    | none => rw [ei] at e; cases e
    | some is =>
      rw [ei] at e
      cases em : maxI is with
      | none => simp only [Option.bind_some, em] at e; cases e
      | some k =>
        simp only [Option.bind_some, em] at e; cases e
        have ev := reps_ints ei ra
        subst ev
        refine cr_max hc pins s σ H _ us Q I r ⟨a, is, rfl, .of ha, ?_, fun m h1 h2 => ?_⟩
        · cases is with
          | nil => cases em
          | cons _ _ => exact Nat.succ_pos _
        · have z := maxI_eq em h1 h2
          subst z
          exact q.flat rfl _ rfl
  · obtain ⟨v, _, rfl, h, rfl⟩ := hs
    obtain ⟨a, vs, rfl, ha, ra⟩ := h.lst
    rename_i ds
    cases ei : intsD ds with
    | none => rw [ei] at e; cases e
    | some is =>
      rw [ei] at e
      cases em : minI is with
      | none => simp only [Option.bind_some, em] at e; cases e
      | some k =>
        simp only [Option.bind_some, em] at e; cases e
        have ev := reps_ints ei ra
        subst ev
        refine cr_min hc pins s σ H _ us Q I r ⟨a, is, rfl, .of ha, ?_, fun m h1 h2 => ?_⟩
        · cases is with
          | nil => cases em
          | cons _ _ => exact Nat.succ_pos _
        · have z := minI_eq em h1 h2
          subst z
          exact q.flat rfl _ rfl
  · obtain ⟨v, _, rfl, h, rfl⟩ := hs
    obtain ⟨a, vs, rfl, ha, ra⟩ := h.lst
    rename_i ds
    cases ei : blsD ds with
    | none =>
      rw [ei] at e
      cases ej : intsD ds with
      | none => simp only [ej] at e; cases e
      | some is =>
        simp only [ej] at e; cases e
        have ev := reps_ints ej ra
        subst ev
        exact cr_anyI hc pins s σ H _ us Q I r ⟨a, is, rfl, .of ha, q.flat rfl _ rfl⟩
    | some is =>
      rw [ei] at e; cases e
      have ev := reps_bls ei ra
      subst ev
      exact cr_any hc pins s σ H _ us Q I r ⟨a, is, rfl, .of ha, q.flat rfl _ rfl⟩
  · obtain ⟨v, _, rfl, h, rfl⟩ := hs
    obtain ⟨a, vs, rfl, ha, ra⟩ := h.lst
    rename_i ds
    cases ei : blsD ds with
    | none => rw [ei] at e; cases e
    | some is =>
      rw [ei] at e; cases e
      have ev := reps_bls ei ra
      subst ev
      exact cr_all hc pins s σ H _ us Q I r ⟨a, is, rfl, .of ha, q.flat rfl _ rfl⟩
  · cases e
end
end Wf

/-! Wf: slots change -/
namespace Wf
open PySem PySem.Spec PyProof.Rows L2
def Slot.mut : Slot → Bool
  | .own _ => true
  | .io _ => true
  | _ => false
section
variable {N : Nm} {W : WX} {G : Gh} {σ : Sg} {H H' : Hp} {ρ ρ' : Env} {Q : VK} {F : Addr → Prop} {M : Addr → Prop}
theorem SlotOk.mono {F F' : Addr → Prop} {mu mu' : Addr → Prop} {v : Option V} {s : Slot} (m : Mon F H F' H') (hm : ∀ a, mu a → mu' a) (hs : ∀ a o, (s.mut = true → v = some (.ref a)) → (s.mut = false → mu a) → H a = some o → H' a = some o) (h : SlotOk N F H mu v s) : SlotOk N F' H' mu' v s := by
  cases s with
  | un => trivial
  | val d => obtain ⟨x, e, r⟩ := h; exact ⟨x, e, Rep.mon m _ _ r⟩
  | own d => obtain ⟨a, e, r⟩ := h; exact ⟨a, e, r.mon m fun o q => hs a o (fun _ => e) (fun z => nomatch z) q⟩
  | io d => obtain ⟨a, e, r⟩ := h; exact ⟨a, e, r.mon m fun o q => hs a o (fun _ => e) (fun z => nomatch z) q⟩
  | lk d =>
    obtain ⟨x, e, r | ⟨a, ea, na, r⟩⟩ := h
    · exact ⟨x, e, .inl (Rep.mon m _ _ r)⟩
    · exact ⟨x, e, .inr ⟨a, ea, hm a na, r.mon m fun o q => hs a o (fun z => nomatch z) (fun _ => na) q⟩⟩
theorem isMut_iff {i : Nat} : isMut ρ i ↔ ∃ s, ρ[i]? = some s ∧ s.mut = true := by
  constructor
  · rintro ⟨d, h | h⟩ <;> exact ⟨_, h, rfl⟩
  · rintro ⟨s, h, e⟩
    cases s <;> first | cases e | skip
    · exact ⟨_, .inl h⟩
    · exact ⟨_, .inr h⟩
theorem isMut_set {i j : Nat} {s : Slot} (h : isMut (ρ.set i s) j) : (j = i ∧ s.mut = true) ∨ (j ≠ i ∧ isMut ρ j) := by
  obtain ⟨t, e, m⟩ := isMut_iff.mp h
  by_cases z : i = j
  · subst z
    by_cases hl : i < ρ.length
    · rw [List.getElem?_set_self hl] at e; cases e; exact .inl ⟨rfl, m⟩
    · rw [List.getElem?_eq_none (by simpa using hl)] at e; cases e
  · rw [List.getElem?_set_ne z] at e
    exact .inr ⟨fun q => z q.symm, isMut_iff.mpr ⟨t, e, m⟩⟩
theorem isMut_set_of {i j : Nat} {s : Slot} (z : j ≠ i) (h : isMut ρ j) : isMut (ρ.set i s) j := by
  obtain ⟨t, e, m⟩ := isMut_iff.mp h
  exact isMut_iff.mpr ⟨t, by rw [List.getElem?_set_ne (Ne.symm z)]; exact e, m⟩
/-- one slot is told otherwise, nothing else changes; no more is changeable -/
theorem StOk.setSlot {i : Nat} {s : Slot} (S : StOk N G σ H ρ) (hm : s.mut = true → isMut ρ i)
    (new : ∀ v, σ[i]? = some v → SlotOk N (Frz G.Mc σ (ρ.set i s)) H G.Lk v s) (hio : ∀ d, s = .io d → ∃ a, G.IO i a ∧ σ[i]? = some (some (.ref a))) : StOk N G σ H (ρ.set i s) := by
  have sub : ∀ j, isMut (ρ.set i s) j → isMut ρ j := fun j h => (isMut_set h).elim (fun z => by rw [z.1]; exact hm z.2) (·.2)
  have msub : ∀ a, muts σ (ρ.set i s) a → muts σ ρ a := fun a ⟨j, e, h⟩ => ⟨j, e, sub j h⟩
  have m : Mon (Frz G.Mc σ ρ) H (Frz G.Mc σ (ρ.set i s)) H := fun a o f e => ⟨⟨f.1, fun z => f.2 (msub a z)⟩, e⟩
  refine ⟨by rw [List.length_set]; exact S.len, fun j t e => ?_, fun j k a h1 h2 m1 m2 => S.dist j k a h1 h2 (sub j m1) (sub k m2), S.mc, fun a z => S.nmc a (msub a z), S.fr, S.dom, fun a z => S.mu a (msub a z), fun a l => ⟨(S.lk a l).1, fun z => (S.lk a l).2 (msub a z)⟩, fun k d e => ?_⟩
  · by_cases z : i = j
    · subst z
      have hl : i < ρ.length := by
        have := (List.getElem?_eq_some_iff.mp e).1
        simpa using this
      rw [List.getElem?_set_self hl] at e; cases e
      have hl' : i < σ.length := by rw [S.len]; exact hl
      have hv : σ[i]? = some σ[i] := List.getElem?_eq_getElem hl'
      exact ⟨_, hv, new _ hv⟩
    · rw [List.getElem?_set_ne z] at e
      obtain ⟨v, ev, k⟩ := S.slot j t e
      exact ⟨v, ev, k.mono m (fun _ z => z) fun a o _ _ q => q⟩
  · by_cases z : i = k
    · subst z
      have hl : i < ρ.length := by
        have := (List.getElem?_eq_some_iff.mp e).1
        simpa using this
      rw [List.getElem?_set_self hl] at e
      exact hio d (Option.some.inj e)
    · rw [List.getElem?_set_ne z] at e
      exact S.io k d e
/-- an own thing is shared from now on -/
theorem StOk.freeze {i : Nat} {d : D} (S : StOk N G σ H ρ) (e : ρ[i]? = some (.own d)) {v : V} (ev : σ[i]? = some (some v)) : StOk N G σ H (ρ.set i (.val d)) ∧ Rep N (Frz G.Mc σ (ρ.set i (.val d))) H d v := by
  obtain ⟨w, ew, a, rfl, o⟩ := S.slot i _ e
  rw [ev] at ew; cases ew
  have mi : isMut ρ i := ⟨d, .inl e⟩
  have ma : muts σ ρ a := ⟨i, ev, mi⟩
  have sub : ∀ j, isMut (ρ.set i (.val d)) j → j ≠ i ∧ isMut ρ j := fun j h => (isMut_set h).elim (fun z => nomatch z.2) id
  have f : Frz G.Mc σ (ρ.set i (.val d)) a := ⟨S.nmc a ma, fun ⟨j, ej, mj⟩ => (sub j mj).1 (S.dist j i a ej ev (sub j mj).2 mi)⟩
  have m : Mon (Frz G.Mc σ ρ) H (Frz G.Mc σ (ρ.set i (.val d))) H := fun a o f e => ⟨⟨f.1, fun ⟨j, ej, mj⟩ => f.2 ⟨j, ej, (sub j mj).2⟩⟩, e⟩
  have r : Rep N (Frz G.Mc σ (ρ.set i (.val d))) H d (.ref a) := (o.mon m fun _ z => z).rep f
  exact ⟨S.setSlot (fun z => nomatch z) (fun w ew => by rw [ev] at ew; cases ew; exact ⟨_, rfl, r⟩) (fun d' z => nomatch z), r⟩
theorem flat_any {F F' : Addr → Prop} {d : D} {v : V} (f : flatD d = true) (h : Rep N F H d v) : Rep N F' H' d v := by
  cases d <;> first | exact h | cases f
theorem flat_rd {F F' : Addr → Prop} {d : D} {v : V} (f : flatD d = true) (h : Rd1 N F H d v) : Rep N F' H' d v := by
  rcases h with h | ⟨a, e, h⟩
  · exact flat_any f h
  · cases d <;> first | exact False.elim h | cases f
/-- a result as a value -/
theorem toVal_ok {r : Rv} {v : V} {d : D} (S : StOk N (G.add (ownA r v)) σ H ρ) (k : RvOk N (G.add (ownA r v)).Mc σ H ρ r v) (fr : Fresh G (ownA r v)) (e : toVal ρ r = some (d, ρ')) :
    StOk N G σ H ρ' ∧ Rep N (Frz G.Mc σ ρ') H d v := by
  cases r with
  | val d' =>
    cases e
    have S' : StOk N G σ H ρ := S.drop
    exact ⟨S', Rep.mon (frz_weak fun _ z => .inl z) _ _ k⟩
  | own d' =>
    cases e
    obtain ⟨p, rfl, mp, o⟩ := k
    have S' : StOk N G σ H ρ := S.drop
    refine ⟨S', (o.mon (frz_weak fun _ z => .inl z) fun _ z => z).rep ⟨(fr p rfl).2.1, fun z => S.nmc p z (.inr rfl)⟩⟩
  | bor i =>
    have S' : StOk N G σ H ρ := S.drop
    have k : σ[i]? = some (some v) := k
    simp only [toVal] at e
    split at e
    · rename_i q; cases e
      obtain ⟨w, ew, x, ex, r⟩ := S'.slot i _ q
      rw [k] at ew; cases ew; cases ex
      exact ⟨S', r⟩
    · rename_i q; cases e
      exact S'.freeze q k
    · rename_i q
      split at e
      · rename_i f
        cases e
        obtain ⟨w, ew, x, ex, r⟩ := S'.slot i _ q
        rw [k] at ew; cases ew; cases ex
        refine ⟨S', ?_⟩
        rcases r with r | ⟨a, ea, _, r⟩
        · exact r
        · exact flat_rd f (.inr ⟨a, ea, r⟩)
      · cases e
    · cases e
/-- a result that is walked: nobody changes it while the run goes on -/
def SrcOk (N : Nm) (G : Gh) (σ : Sg) (H : Hp) (ρ : Env) (d : D) (v : V) : Prop := Rep N (Frz G.Mc σ ρ) H d v ∨ ∃ a, v = .ref a ∧ ¬ muts σ ρ a ∧ ORep N (Frz G.Mc σ ρ) H a d
theorem toSrc_ok {r : Rv} {v : V} {d : D} (S : StOk N (G.add (ownA r v)) σ H ρ) (k : RvOk N (G.add (ownA r v)).Mc σ H ρ r v) (e : toSrc ρ r = some (d, ρ')) :
    StOk N (G.add (ownA r v)) σ H ρ' ∧ SrcOk N (G.add (ownA r v)) σ H ρ' d v := by
  cases r with
  | val d' => cases e; exact ⟨S, .inl k⟩
  | own d' =>
    cases e
    obtain ⟨p, rfl, mp, o⟩ := k
    exact ⟨S, .inr ⟨p, rfl, fun z => S.nmc p z mp, o⟩⟩
  | bor i =>
    have k : σ[i]? = some (some v) := k
    simp only [toSrc] at e
    split at e
    · rename_i q; cases e
      obtain ⟨w, ew, x, ex, r⟩ := S.slot i _ q
      rw [k] at ew; cases ew; cases ex
      exact ⟨S, .inl r⟩
    · rename_i q; cases e
      obtain ⟨S', r⟩ := S.freeze q k
      exact ⟨S', .inl r⟩
    · rename_i q
      cases e
      obtain ⟨w, ew, x, ex, r⟩ := S.slot i _ q
      rw [k] at ew; cases ew; cases ex
      exact ⟨S, r.imp id fun ⟨a, ea, l, o⟩ => ⟨a, ea, (S.lk a l).2, o⟩⟩
    · cases e
theorem asg_some {i : Nat} {s : Slot} (e : asg i s ρ = some ρ') : ρ' = ρ.set i s ∧ i < ρ.length ∧ ∀ d, ρ[i]? ≠ some (.io d) := by
  unfold asg at e
  split at e
  · cases e
  · cases e
  · rename_i s' n q
    cases e
    exact ⟨rfl, (List.getElem?_eq_some_iff.mp q).1, fun d z => n d (by rw [q] at z; exact Option.some.inj z)⟩
theorem muts_asg {i : Nat} {s : Slot} {v : Option V} {a : Addr} (h : muts (σ.set i v) (ρ.set i s) a) : (s.mut = true ∧ v = some (.ref a)) ∨ muts σ ρ a := by
  obtain ⟨j, e, m⟩ := h
  rcases isMut_set m with ⟨rfl, ms⟩ | ⟨ne, mj⟩
  · refine .inl ⟨ms, ?_⟩
    by_cases hl : j < σ.length
    · rw [List.getElem?_set_self hl] at e; exact Option.some.inj e
    · rw [List.getElem?_eq_none (by simpa using hl)] at e; cases e
  · rw [List.getElem?_set_ne (Ne.symm ne)] at e
    exact .inr ⟨j, e, mj⟩
/-- a slot gets a value -/
theorem StOk.asgVal {i : Nat} {d : D} {v : V} (S : StOk N G σ H ρ) (r : Rep N (Frz G.Mc σ ρ) H d v) (e : asg i (.val d) ρ = some ρ') : StOk N G (σ.set i (some v)) H ρ' := by
  obtain ⟨rfl, hl, nio⟩ := asg_some e
  have hl' : i < σ.length := by rw [S.len]; exact hl
  have msub : ∀ a, muts (σ.set i (some v)) (ρ.set i (.val d)) a → muts σ ρ a := fun a h => (muts_asg h).elim (fun z => nomatch z.1) id
  have m : Mon (Frz G.Mc σ ρ) H (Frz G.Mc (σ.set i (some v)) (ρ.set i (.val d))) H := fun a o f e => ⟨⟨f.1, fun z => f.2 (msub a z)⟩, e⟩
  have mut_ne : ∀ j, isMut (ρ.set i (.val d)) j → j ≠ i ∧ isMut ρ j := fun j h => (isMut_set h).elim (fun z => nomatch z.2) id
  refine ⟨by rw [List.length_set, List.length_set]; exact S.len, fun j t q => ?_, fun j k a h1 h2 m1 m2 => ?_, S.mc, fun a z => S.nmc a (msub a z), S.fr, S.dom, fun a z => S.mu a (msub a z), fun a l => ⟨(S.lk a l).1, fun z => (S.lk a l).2 (msub a z)⟩, fun k d' q => ?_⟩
  · by_cases z : i = j
    · subst z
      rw [List.getElem?_set_self hl] at q; cases q
      exact ⟨some v, List.getElem?_set_self hl', v, rfl, Rep.mon m _ _ r⟩
    · rw [List.getElem?_set_ne z] at q
      obtain ⟨w, ew, k⟩ := S.slot j t q
      exact ⟨w, by rw [List.getElem?_set_ne z]; exact ew, k.mono m (fun _ z => z) fun a o _ _ q => q⟩
  · obtain ⟨n1, m1⟩ := mut_ne j m1
    obtain ⟨n2, m2⟩ := mut_ne k m2
    rw [List.getElem?_set_ne (Ne.symm n1)] at h1
    rw [List.getElem?_set_ne (Ne.symm n2)] at h2
    exact S.dist j k a h1 h2 m1 m2
  · by_cases z : i = k
    · subst z; rw [List.getElem?_set_self hl] at q; cases q
    · rw [List.getElem?_set_ne z] at q
      rw [List.getElem?_set_ne z]
      exact S.io k d' q
/-- a slot is emptied -/
theorem StOk.asgUn {i : Nat} {v : Option V} (S : StOk N G σ H ρ) : StOk N G (σ.set i v) H (ρ.set i .un) := by
  have msub : ∀ a, muts (σ.set i v) (ρ.set i .un) a → muts σ ρ a := fun a h => (muts_asg h).elim (fun z => nomatch z.1) id
  have m : Mon (Frz G.Mc σ ρ) H (Frz G.Mc (σ.set i v) (ρ.set i .un)) H := fun a o f e => ⟨⟨f.1, fun z => f.2 (msub a z)⟩, e⟩
  have mut_ne : ∀ j, isMut (ρ.set i .un) j → j ≠ i ∧ isMut ρ j := fun j h => (isMut_set h).elim (fun z => nomatch z.2) id
  refine ⟨by rw [List.length_set, List.length_set]; exact S.len, fun j t q => ?_, fun j k a h1 h2 m1 m2 => ?_, S.mc, fun a z => S.nmc a (msub a z), S.fr, S.dom, fun a z => S.mu a (msub a z), fun a l => ⟨(S.lk a l).1, fun z => (S.lk a l).2 (msub a z)⟩, fun k d' q => ?_⟩
  · by_cases z : i = j
    · subst z
      have hl : i < ρ.length := by simpa using (List.getElem?_eq_some_iff.mp q).1
      rw [List.getElem?_set_self hl] at q; cases q
      exact ⟨v, List.getElem?_set_self (by rw [S.len]; exact hl), trivial⟩
    · rw [List.getElem?_set_ne z] at q
      obtain ⟨w, ew, k⟩ := S.slot j t q
      exact ⟨w, by rw [List.getElem?_set_ne z]; exact ew, k.mono m (fun _ z => z) fun a o _ _ q => q⟩
  · obtain ⟨n1, m1⟩ := mut_ne j m1
    obtain ⟨n2, m2⟩ := mut_ne k m2
    rw [List.getElem?_set_ne (Ne.symm n1)] at h1
    rw [List.getElem?_set_ne (Ne.symm n2)] at h2
    exact S.dist j k a h1 h2 m1 m2
  · by_cases z : i = k
    · subst z
      have hl : i < ρ.length := by simpa using (List.getElem?_eq_some_iff.mp q).1
      rw [List.getElem?_set_self hl] at q; cases q
    · rw [List.getElem?_set_ne z] at q
      rw [List.getElem?_set_ne z]
      exact S.io k d' q
/-- a slot gets a thing of its own -/
theorem StOk.asgOwn {i : Nat} {d : D} {p : Addr} (S : StOk N (G.add (ownA (.own d) (.ref p))) σ H ρ) (o : ORep N (Frz (G.add (ownA (.own d) (.ref p))).Mc σ ρ) H p d) (fr : Fresh G (ownA (.own d) (.ref p))) (e : asg i (.own d) ρ = some ρ') : StOk N G (σ.set i (some (.ref p))) H ρ' := by
  obtain ⟨rfl, hl, nio⟩ := asg_some e
  have hl' : i < σ.length := by rw [S.len]; exact hl
  have np : ¬ muts σ ρ p := fun z => S.nmc p z (.inr rfl)
  have msub : ∀ a, muts (σ.set i (some (.ref p))) (ρ.set i (.own d)) a → a = p ∨ muts σ ρ a := fun a h => (muts_asg h).elim (fun z => .inl (by have := z.2; cases this; rfl)) .inr
  have m : Mon (Frz (G.add (ownA (.own d) (.ref p))).Mc σ ρ) H (Frz G.Mc (σ.set i (some (.ref p))) (ρ.set i (.own d))) H := fun a o f e => by
    refine ⟨⟨fun z => f.1 (.inl z), fun z => ?_⟩, e⟩
    rcases msub a z with z | z
    · subst z; exact f.1 (.inr rfl)
    · exact f.2 z
  have key : ∀ j a, (σ.set i (some (.ref p)))[j]? = some (some (.ref a)) → isMut (ρ.set i (.own d)) j → (j = i ∧ a = p) ∨ (j ≠ i ∧ a ≠ p ∧ σ[j]? = some (some (.ref a)) ∧ isMut ρ j) := fun j a h mj => by
    rcases isMut_set mj with ⟨rfl, _⟩ | ⟨ne, mj⟩
    · rw [List.getElem?_set_self hl'] at h; cases h; exact .inl ⟨rfl, rfl⟩
    · rw [List.getElem?_set_ne (Ne.symm ne)] at h
      exact .inr ⟨ne, fun z => np (by subst z; exact ⟨j, h, mj⟩), h, mj⟩
  refine ⟨by rw [List.length_set, List.length_set]; exact S.len, fun j t q => ?_, fun j k a h1 h2 m1 m2 => ?_, fun a z => S.mc a (.inl z), fun a z w => ?_, S.fr, S.dom, fun a z => ?_, fun a l => ⟨(S.lk a l).1, fun z => ?_⟩, fun k d' q => ?_⟩
  · by_cases z : i = j
    · subst z
      rw [List.getElem?_set_self hl] at q; cases q
      exact ⟨_, List.getElem?_set_self hl', p, rfl, o.mon m fun _ z => z⟩
    · rw [List.getElem?_set_ne z] at q
      obtain ⟨w, ew, k⟩ := S.slot j t q
      refine ⟨w, by rw [List.getElem?_set_ne z]; exact ew, ?_⟩
      cases t with
      | un => trivial
      | val d => obtain ⟨x, e, r⟩ := k; exact ⟨x, e, Rep.mon m _ _ r⟩
      | own d => obtain ⟨a, e, r⟩ := k; exact ⟨a, e, r.mon m fun _ z => z⟩
      | io d => obtain ⟨a, e, r⟩ := k; exact ⟨a, e, r.mon m fun _ z => z⟩
      | lk d =>
        obtain ⟨x, e, r | ⟨a, ea, na, r⟩⟩ := k
        · exact ⟨x, e, .inl (Rep.mon m _ _ r)⟩
        · exact ⟨x, e, .inr ⟨a, ea, na, r.mon m fun _ z => z⟩⟩
  · rcases key j a h1 m1 with ⟨rfl, e1⟩ | ⟨n1, a1, h1, m1⟩
    · rcases key k a h2 m2 with ⟨rfl, e2⟩ | ⟨n2, a2, h2, m2⟩
      · rfl
      · exact absurd e1 a2
    · rcases key k a h2 m2 with ⟨rfl, e2⟩ | ⟨n2, a2, h2, m2⟩
      · exact absurd e2 a1
      · exact S.dist j k a h1 h2 m1 m2
  · rcases msub a z with z | z
    · subst z; exact (fr a rfl).2.1 w
    · exact S.nmc a z (.inl w)
  · rcases msub a z with z | z
    · subst z; exact (fr a rfl).1.symm
    · exact S.mu a z
  · rcases msub a z with z | z
    · subst z; exact (fr a rfl).2.2 l
    · exact (S.lk a l).2 z
  · by_cases z : i = k
    · subst z; rw [List.getElem?_set_self hl] at q; cases q
    · rw [List.getElem?_set_ne z] at q
      rw [List.getElem?_set_ne z]
      exact S.io k d' q
theorem ownAt_some {i : Nat} {d : D} {k : D → Slot} (e : ownAt ρ i = some (d, k)) : ρ[i]? = some (k d) ∧ ((k = .own) ∨ (k = .io)) := by
  unfold ownAt at e
  split at e
  · rename_i d' q; cases e; exact ⟨q, .inl rfl⟩
  · rename_i d' q; cases e; exact ⟨q, .inr rfl⟩
  · cases e
/-- the changeable thing of a slot -/
theorem StOk.at_own {i : Nat} {d : D} {k : D → Slot} (S : StOk N G σ H ρ) (e : ownAt ρ i = some (d, k)) : ∃ a, σ[i]? = some (some (.ref a)) ∧ ORep N (Frz G.Mc σ ρ) H a d ∧ muts σ ρ a := by
  obtain ⟨q, hk⟩ := ownAt_some e
  rcases hk with rfl | rfl
  · obtain ⟨v, ev, a, rfl, o⟩ := S.slot i _ q
    exact ⟨a, ev, o, i, ev, d, .inl q⟩
  · obtain ⟨v, ev, a, rfl, o⟩ := S.slot i _ q
    exact ⟨a, ev, o, i, ev, d, .inr q⟩
/-- it is changed -/
theorem StOk.write {i : Nat} {d d' : D} {k : D → Slot} {a : Addr} {o : HO} (S : StOk N G σ H ρ) (e : ownAt ρ i = some (d, k)) (ev : σ[i]? = some (some (.ref a)))
    (r : ORep N (Frz G.Mc σ ρ) (upd H a o) a d') : StOk N G σ (upd H a o) (ρ.set i (k d')) := by
  obtain ⟨a', ev', _, ma⟩ := S.at_own e
  rw [ev] at ev'; cases ev'
  obtain ⟨q, hk⟩ := ownAt_some e
  have hl : i < ρ.length := (List.getElem?_eq_some_iff.mp q).1
  have km : (k d).mut = true := by rcases hk with rfl | rfl <;> rfl
  have km' : (k d').mut = true := by rcases hk with rfl | rfl <;> rfl
  have mi : isMut ρ i := isMut_iff.mpr ⟨_, q, km⟩
  have sub : ∀ j, isMut (ρ.set i (k d')) j → isMut ρ j := fun j h => (isMut_set h).elim (fun z => by rw [z.1]; exact mi) (·.2)
  have msub : ∀ b, muts σ (ρ.set i (k d')) b → muts σ ρ b := fun b ⟨j, e, h⟩ => ⟨j, e, sub j h⟩
  have m : Mon (Frz G.Mc σ ρ) H (Frz G.Mc σ (ρ.set i (k d'))) (upd H a o) := fun b ob f e => ⟨⟨f.1, fun z => f.2 (msub b z)⟩, by rw [upd_ne (fun z => f.2 (by rw [z]; exact ma))]; exact e⟩
  have m2 : Mon (Frz G.Mc σ ρ) (upd H a o) (Frz G.Mc σ (ρ.set i (k d'))) (upd H a o) := fun b ob f e => ⟨⟨f.1, fun z => f.2 (msub b z)⟩, e⟩
  have nn : ∀ b, upd H a o b = none → H b = none := fun b z => by
    by_cases h : b = a
    · subst h; rw [upd_same] at z; cases z
    · rw [upd_ne h] at z; exact z
  refine ⟨by rw [List.length_set]; exact S.len, fun j t q' => ?_, fun j k a h1 h2 m1 m2 => S.dist j k a h1 h2 (sub j m1) (sub k m2), fun b z w => S.mc b z (nn b w), fun b z => S.nmc b (msub b z), fun b ob e n => ?_, fun b z => S.dom b (nn b z), fun b z => S.mu b (msub b z),
    fun b l => ⟨fun z => (S.lk b l).1 (nn b z), fun z => (S.lk b l).2 (msub b z)⟩, fun k' d'' q' => ?_⟩
  · by_cases z : i = j
    · subst z
      rw [List.getElem?_set_self hl] at q'; cases q'
      refine ⟨_, ev, ?_⟩
      rcases hk with rfl | rfl
      · exact ⟨a, rfl, r.mon m2 fun _ z => z⟩
      · exact ⟨a, rfl, r.mon m2 fun _ z => z⟩
    · rw [List.getElem?_set_ne z] at q'
      obtain ⟨v, ev2, k2⟩ := S.slot j t q'
      refine ⟨v, ev2, k2.mono m (fun _ z => z) fun b ob h1 h2 e => ?_⟩
      have hb : b ≠ a := by
        rintro rfl
        cases ht : t.mut with
        | true =>
          have := h1 ht
          rw [this] at ev2
          exact z (S.dist i j b ev ev2 mi (isMut_iff.mpr ⟨t, q', ht⟩))
        | false => exact (S.lk b (h2 ht)).2 ma
      rw [upd_ne hb]; exact e
  · have hb : b ≠ a := by
      rintro rfl
      rcases S.mu b ma with w | w
      · exact n w
      · rw [e] at w; cases w
    rw [upd_ne hb]; exact S.fr b ob e n
  · by_cases z : i = k'
    · subst z
      rw [List.getElem?_set_self hl] at q'
      rcases hk with rfl | rfl
      · cases q'
      · exact S.io i d q
    · rw [List.getElem?_set_ne z] at q'
      exact S.io k' d'' q'
end
end Wf

/-! Wf: arguments are given and taken back -/
namespace Wf
open PySem PySem.Spec PyProof.Rows L2
section
variable {N : Nm} {W : WX} {G : Gh} {σ : Sg} {H H' : Hp} {ρ ρ' : Env} {Q : VK} {F : Addr → Prop} {M : Addr → Prop}
/-- a changeable thing leaves its slot -/
theorem StOk.takeOut {i : Nat} {d : D} {k : D → Slot} (S : StOk N G σ H ρ) (e : ownAt ρ i = some (d, k)) {a : Addr} (ev : σ[i]? = some (some (.ref a))) :
    StOk N (G.add fun b => b = a) σ H (ρ.set i .un) ∧ ORep N (Frz (G.add fun b => b = a).Mc σ (ρ.set i .un)) H a d ∧ muts σ ρ a := by
  obtain ⟨a', ev', o, ma⟩ := S.at_own e
  rw [ev] at ev'; cases ev'
  obtain ⟨q, hk⟩ := ownAt_some e
  have km : (k d).mut = true := by rcases hk with rfl | rfl <;> rfl
  have mi : isMut ρ i := isMut_iff.mpr ⟨_, q, km⟩
  have sub : ∀ j, isMut (ρ.set i .un) j → j ≠ i ∧ isMut ρ j := fun j h => (isMut_set h).elim (fun z => nomatch z.2) id
  have msub : ∀ b, muts σ (ρ.set i .un) b → b ≠ a ∧ muts σ ρ b := fun b ⟨j, ej, mj⟩ => ⟨fun z => (sub j mj).1 (by subst z; exact S.dist j i b ej ev (sub j mj).2 mi), j, ej, (sub j mj).2⟩
  have m : Mon (Frz G.Mc σ ρ) H (Frz (G.add fun b => b = a).Mc σ (ρ.set i .un)) H := fun b ob f e => by
    refine ⟨⟨fun z => ?_, fun z => f.2 (msub b z).2⟩, e⟩
    rcases z with z | z
    · exact f.1 z
    · exact f.2 (by rw [show b = a from z]; exact ma)
  refine ⟨⟨by rw [List.length_set]; exact S.len, fun j t q' => ?_, fun j k b h1 h2 m1 m2 => S.dist j k b h1 h2 (sub j m1).2 (sub k m2).2, fun b z => ?_, fun b z w => ?_, S.fr, S.dom, fun b z => S.mu b (msub b z).2, fun b l => ⟨(S.lk b l).1, fun z => (S.lk b l).2 (msub b z).2⟩, fun k' d' q' => ?_⟩, o.mon m fun _ z => z, ma⟩
  · by_cases z : i = j
    · subst z
      have hl : i < ρ.length := (List.getElem?_eq_some_iff.mp q).1
      rw [List.getElem?_set_self hl] at q'; cases q'
      exact ⟨_, ev, trivial⟩
    · rw [List.getElem?_set_ne z] at q'
      obtain ⟨v, ev, k⟩ := S.slot j t q'
      exact ⟨v, ev, k.mono m (fun _ z => z) fun _ _ _ _ q => q⟩
  · rcases z with z | z
    · exact S.mc b z
    · rw [show b = a from z]; exact S.mutThere ma
  · rcases w with w | w
    · exact S.nmc b (msub b z).2 w
    · exact (msub b z).1 w
  · by_cases z : i = k'
    · subst z
      have hl : i < ρ.length := (List.getElem?_eq_some_iff.mp q).1
      rw [List.getElem?_set_self hl] at q'; cases q'
    · rw [List.getElem?_set_ne z] at q'
      exact S.io k' d' q'
/-- and comes back -/
theorem StOk.putBack {i : Nat} {d : D} {k : D → Slot} {a : Addr} (S : StOk N (G.add fun b => b = a) σ H ρ) (e : ρ[i]? = some .un) (ev : σ[i]? = some (some (.ref a)))
    (o : ORep N (Frz (G.add fun b => b = a).Mc σ ρ) H a d) (hk : k = .own ∨ (k = .io ∧ G.IO i a)) (n1 : ¬ G.Mc a) (n2 : ¬ G.Lk a) (n3 : G.W0 a ∨ G.H0 a = none) : StOk N G σ H (ρ.set i (k d)) := by
  have hl : i < ρ.length := (List.getElem?_eq_some_iff.mp e).1
  have nm : ¬ muts σ ρ a := fun z => S.nmc a z (.inr rfl)
  have ni : ¬ isMut ρ i := fun z => by obtain ⟨d, z | z⟩ := z <;> (rw [e] at z; cases z)
  have key : ∀ j b, σ[j]? = some (some (.ref b)) → isMut (ρ.set i (k d)) j → (j = i ∧ b = a) ∨ (j ≠ i ∧ b ≠ a ∧ isMut ρ j) := fun j b h mj => by
    rcases isMut_set mj with ⟨rfl, _⟩ | ⟨ne, mj⟩
    · rw [ev] at h; cases h; exact .inl ⟨rfl, rfl⟩
    · exact .inr ⟨ne, fun z => nm (by subst z; exact ⟨j, h, mj⟩), mj⟩
  have msub : ∀ b, muts σ (ρ.set i (k d)) b → b = a ∨ muts σ ρ b := fun b ⟨j, ej, mj⟩ => (key j b ej mj).elim (fun z => .inl z.2) fun z => .inr ⟨j, ej, z.2.2⟩
  have m : Mon (Frz (G.add fun b => b = a).Mc σ ρ) H (Frz G.Mc σ (ρ.set i (k d))) H := fun b ob f e => by
    refine ⟨⟨fun z => f.1 (.inl z), fun z => ?_⟩, e⟩
    rcases msub b z with z | z
    · exact f.1 (.inr z)
    · exact f.2 z
  refine ⟨by rw [List.length_set]; exact S.len, fun j t q' => ?_, fun j l b h1 h2 m1 m2 => ?_, fun b z => S.mc b (.inl z), fun b z w => ?_, S.fr, S.dom, fun b z => ?_, fun b l => ⟨(S.lk b l).1, fun z => ?_⟩, fun k' d' q' => ?_⟩
  · by_cases z : i = j
    · subst z
      rw [List.getElem?_set_self hl] at q'; cases q'
      refine ⟨_, ev, ?_⟩
      rcases hk with rfl | ⟨rfl, _⟩
      · exact ⟨a, rfl, o.mon m fun _ z => z⟩
      · exact ⟨a, rfl, o.mon m fun _ z => z⟩
    · rw [List.getElem?_set_ne z] at q'
      obtain ⟨v, ev, k⟩ := S.slot j t q'
      exact ⟨v, ev, k.mono m (fun _ z => z) fun _ _ _ _ q => q⟩
  · rcases key j b h1 m1 with ⟨rfl, e1⟩ | ⟨a1, b1, m1⟩
    · rcases key l b h2 m2 with ⟨rfl, e2⟩ | ⟨a2, b2, m2⟩
      · rfl
      · exact absurd e1 b2
    · rcases key l b h2 m2 with ⟨rfl, e2⟩ | ⟨a2, b2, m2⟩
      · exact absurd e2 b1
      · exact S.dist j l b h1 h2 m1 m2
  · rcases msub b z with z | z
    · rw [z] at w; exact n1 w
    · exact S.nmc b z (.inl w)
  · rcases msub b z with z | z
    · rw [z]; exact n3
    · exact S.mu b z
  · rcases msub b z with z | z
    · rw [z] at l; exact n2 l
    · exact (S.lk b l).2 z
  · by_cases z : i = k'
    · subst z
      rw [List.getElem?_set_self hl] at q'
      rcases hk with rfl | ⟨rfl, hio⟩
      · cases q'
      · exact ⟨a, hio, ev⟩
    · rw [List.getElem?_set_ne z] at q'
      exact S.io k' d' q'
/-- somebody else has changed what we leave alone -/
theorem StOk.outside (S : StOk N G σ H ρ) (ch : ∀ b o, H b = some o → ¬ M b → H' b = some o) (dm : ∀ b, H' b = none → H b = none) (hM : ∀ b, M b → G.Mc b ∧ ¬ G.Lk b ∧ (G.W0 b ∨ G.H0 b = none)) : StOk N G σ H' ρ := by
  have m : Mon (Frz G.Mc σ ρ) H (Frz G.Mc σ ρ) H' := fun b o f e => ⟨f, ch b o e fun z => f.1 (hM b z).1⟩
  refine ⟨S.len, fun j t q => ?_, S.dist, fun b z w => S.mc b z (dm b w), S.nmc, fun b o e n => ?_, fun b e => S.dom b (dm b e), S.mu, fun b l => ⟨fun z => (S.lk b l).1 (dm b z), (S.lk b l).2⟩, S.io⟩
  · obtain ⟨v, ev, k⟩ := S.slot j t q
    refine ⟨v, ev, k.mono m (fun _ z => z) fun a o h1 h2 e => ch a o e fun z => ?_⟩
    cases ht : t.mut with
    | true => exact S.nmc a ⟨j, by rw [ev, h1 ht], isMut_iff.mpr ⟨t, q, ht⟩⟩ (hM a z).1
    | false => exact (hM a z).2.1 (h2 ht)
  · refine ch b o (S.fr b o e n) fun z => ?_
    rcases (hM b z).2.2 with w | w
    · exact n w
    · rw [e] at w; cases w

/-! ### what is given -/
/-- one given argument: slot, value, the address that is passed -/
def ArgOk (N : Nm) (F : Addr → Prop) (H : Hp) (Lk : Addr → Prop) (s : Slot) (v : V) (p : Option Addr) : Prop := match s with
  | .val d => p = none ∧ Rep N F H d v
  | .lk d => (p = none ∧ (Rep N F H d v ∨ ∃ a, v = .ref a ∧ Lk a ∧ ORep N F H a d)) ∨ ∃ a, p = some a ∧ v = .ref a ∧ ORep N F H a d
  | .io d => ∃ a, p = some a ∧ v = .ref a ∧ ORep N F H a d
  | .own d => ∃ a, p = some a ∧ v = .ref a ∧ ORep N F H a d
  | .un => False
def ArgsOk (N : Nm) (F : Addr → Prop) (H : Hp) (Lk : Addr → Prop) : List Slot → List V → List (Option Addr) → Prop
  | [], vs, ps => vs = [] ∧ ps = []
  | s :: as, vs, ps => ∃ v w p q, vs = v :: w ∧ ps = p :: q ∧ ArgOk N F H Lk s v p ∧ ArgsOk N F H Lk as w q ∧ ∀ a, p = some a → some a ∉ q
def inP (ps : List (Option Addr)) (a : Addr) : Prop := some a ∈ ps
/-- what was lent by a slot: its place, its address -/
def BkOk (IO : Nat → Addr → Prop) (σ : Sg) (s : Slot) (v : V) (p : Option Addr) : Bk → Prop
  | none => True
  | some (i, k, d) => ∃ a, p = some a ∧ v = .ref a ∧ σ[i]? = some (some (.ref a)) ∧ (k = .own ∨ (k = .io ∧ IO i a)) ∧ (s = .lk d ∨ s = .io d)
def BksOk (IO : Nat → Addr → Prop) (σ : Sg) : List Slot → List V → List (Option Addr) → List Bk → Prop
  | s :: as, v :: vs, p :: ps, b :: bs => BkOk IO σ s v p b ∧ BksOk IO σ as vs ps bs
  | _, _, _, bs => bs = []
theorem ArgOk.mon {F F' : Addr → Prop} {Lk : Addr → Prop} (m : Mon F H F' H) {s : Slot} {v : V} {p : Option Addr} (h : ArgOk N F H Lk s v p) : ArgOk N F' H Lk s v p := by
  cases s with
  | un => exact h
  | val d => exact ⟨h.1, Rep.mon m _ _ h.2⟩
  | own d => obtain ⟨a, e, ev, o⟩ := h; exact ⟨a, e, ev, o.mon m fun _ z => z⟩
  | io d => obtain ⟨a, e, ev, o⟩ := h; exact ⟨a, e, ev, o.mon m fun _ z => z⟩
  | lk d =>
    rcases h with ⟨e, h | ⟨a, ev, l, o⟩⟩ | ⟨a, e, ev, o⟩
    · exact .inl ⟨e, .inl (Rep.mon m _ _ h)⟩
    · exact .inl ⟨e, .inr ⟨a, ev, l, o.mon m fun _ z => z⟩⟩
    · exact .inr ⟨a, e, ev, o.mon m fun _ z => z⟩
theorem ArgsOk.mon {F F' : Addr → Prop} {Lk : Addr → Prop} (m : Mon F H F' H) : ∀ {as : List Slot} {vs : List V} {ps : List (Option Addr)}, ArgsOk N F H Lk as vs ps → ArgsOk N F' H Lk as vs ps
  | [], _, _, h => h
  | s :: as, _, _, ⟨v, w, p, q, e1, e2, h, t, n⟩ => ⟨v, w, p, q, e1, e2, h.mon m, t.mon m, n⟩
theorem StOk.recast {M M' : Addr → Prop} (S : StOk N (G.add M) σ H ρ) (h : ∀ a, M' a → M a) : StOk N (G.add M') σ H ρ := S.weak fun a z => z.imp id (h a)
theorem RvOk.recast {M M' : Addr → Prop} {r : Rv} {v : V} (k : RvOk N (G.add M).Mc σ H ρ r v) (h : ∀ a, M' a → M a) (h2 : ∀ a, ownA r v a → M' a) : RvOk N (G.add M').Mc σ H ρ r v := k.weak (fun a z => z.imp id (h a)) fun a z => .inr (h2 a z)
/-- what is known of a passed address -/
structure POk (G : Gh) (H : Hp) (X : Addr → Prop) (a : Addr) : Prop where
  nx : ¬ X a
  nm : ¬ G.Mc a
  nl : ¬ G.Lk a
  w : G.W0 a ∨ G.H0 a = none
  th : H a ≠ none
structure Give1 (N : Nm) (G : Gh) (σ : Sg) (H : Hp) (ρ ρ' : Env) (X : Addr → Prop) (r : Rv) (v : V) (s : Slot) (b : Bk) (p : Option Addr) : Prop where
  st : StOk N (G.add fun a => p = some a ∨ X a) σ H ρ'
  arg : ArgOk N (Frz (G.add fun a => p = some a ∨ X a).Mc σ ρ') H G.Lk s v p
  bk : BkOk G.IO σ s v p b
  pok : ∀ a, p = some a → POk G H X a
  mu : ∀ a, muts σ ρ' a → muts σ ρ a
  mon : Mon (Frz (G.add fun a => ownA r v a ∨ X a).Mc σ ρ) H (Frz (G.add fun a => p = some a ∨ X a).Mc σ ρ') H
theorem muts_un {i : Nat} : ∀ a, muts σ (ρ.set i .un) a → muts σ ρ a := fun a ⟨j, ej, mj⟩ => (isMut_set mj).elim (fun z => nomatch z.2) fun z => ⟨j, ej, z.2⟩
theorem toVal_mu {r : Rv} {d : D} (e : toVal ρ r = some (d, ρ')) : ∀ a, muts σ ρ' a → muts σ ρ a := by
  cases r with
  | val d' => cases e; exact fun _ z => z
  | own d' => cases e; exact fun _ z => z
  | bor i =>
    simp only [toVal] at e
    split at e
    · cases e; exact fun _ z => z
    · cases e
      rintro a ⟨j, ej, mj⟩
      exact (isMut_set mj).elim (fun z => nomatch z.2) fun z => ⟨j, ej, z.2⟩
    · split at e
      · cases e; exact fun _ z => z
      · cases e
    · cases e
theorem give1_ok {m : Mode} {r : Rv} {v : V} {s : Slot} {b : Bk} {X : Addr → Prop} (S : StOk N (G.add fun a => ownA r v a ∨ X a) σ H ρ) (k : RvOk N (G.add fun a => ownA r v a ∨ X a).Mc σ H ρ r v) (fr : Fresh G (ownA r v)) (ds : ∀ a, ownA r v a → ¬ X a)
    (e : give1 ρ m r = some (s, ρ', b)) : ∃ p, Give1 N G σ H ρ ρ' X r v s b p := by
  have Sx : StOk N ((G.add X).add (ownA r v)) σ H ρ := S.weak fun a z => z.elim (fun z => z.elim .inl fun z => .inr (.inr z)) fun z => .inr (.inl z)
  have kx : RvOk N ((G.add X).add (ownA r v)).Mc σ H ρ r v := k.weak (fun a z => z.elim (fun z => z.elim .inl fun z => .inr (.inr z)) fun z => .inr (.inl z)) fun a z => .inr z
  have frx : Fresh (G.add X) (ownA r v) := fun a z => ⟨(fr a z).1, fun w => w.elim (fr a z).2.1 (ds a z), (fr a z).2.2⟩
  -- an owned result is passed
  have passOwn : ∀ d p, r = .own d → v = .ref p → POk G H X p := fun d p er ev => by
    subst er ev
    exact ⟨ds p rfl, (fr p rfl).2.1, (fr p rfl).2.2, (fr p rfl).1.symm, S.mc p (.inr (.inl rfl))⟩
  have keepOwn : ∀ d p, r = .own d → v = .ref p → StOk N (G.add fun a => (some p : Option Addr) = some a ∨ X a) σ H ρ ∧ ORep N (Frz (G.add fun a => (some p : Option Addr) = some a ∨ X a).Mc σ ρ) H p d ∧
      Mon (Frz (G.add fun a => ownA r v a ∨ X a).Mc σ ρ) H (Frz (G.add fun a => (some p : Option Addr) = some a ∨ X a).Mc σ ρ) H := fun d p er ev => by
    subst er ev
    have im : ∀ a, ((some p : Option Addr) = some a ∨ X a) → (ownA (.own d) (.ref p) a ∨ X a) := fun a z => z.imp (fun z => by cases z; rfl) id
    obtain ⟨q, eq, mq, o⟩ := k
    cases eq
    exact ⟨S.recast im, o.mon (frz_weak fun a z => z.imp id (im a)) fun _ z => z, frz_weak fun a z => z.imp id (im a)⟩
  have nil : StOk N (G.add fun a => (none : Option Addr) = some a ∨ X a) σ H ρ := S.recast fun a z => z.elim (fun z => nomatch z) .inr
  have mnil : Mon (Frz (G.add fun a => ownA r v a ∨ X a).Mc σ ρ) H (Frz (G.add fun a => (none : Option Addr) = some a ∨ X a).Mc σ ρ) H := frz_weak fun a z => z.imp id fun z => z.elim (fun z => nomatch z) .inr
  -- a slot is emptied
  have out : ∀ i d κ, r = .bor i → ownAt ρ i = some (d, κ) → ∃ a, v = .ref a ∧ σ[i]? = some (some (.ref a)) ∧ StOk N (G.add fun b => (some a : Option Addr) = some b ∨ X b) σ H (ρ.set i .un) ∧
      ORep N (Frz (G.add fun b => (some a : Option Addr) = some b ∨ X b).Mc σ (ρ.set i .un)) H a d ∧ POk G H X a ∧ (κ = .own ∨ (κ = .io ∧ G.IO i a)) ∧
      Mon (Frz (G.add fun a => ownA r v a ∨ X a).Mc σ ρ) H (Frz (G.add fun b => (some a : Option Addr) = some b ∨ X b).Mc σ (ρ.set i .un)) H := fun i d κ er eo => by
    subst er
    have k : σ[i]? = some (some v) := k
    obtain ⟨a, ev, _, ma⟩ := S.at_own eo
    rw [k] at ev; cases ev
    obtain ⟨S2, o2, _⟩ := S.takeOut eo k
    have im : ∀ b, ((some a : Option Addr) = some b ∨ X b) → ((noA b ∨ X b) ∨ b = a) := fun b z => z.elim (fun z => .inr (by cases z; rfl)) fun z => .inl (.inr z)
    have im' : ∀ b, (G.add fun b => (some a : Option Addr) = some b ∨ X b).Mc b → ((G.add fun b => noA b ∨ X b).add fun b => b = a).Mc b := fun b z => z.elim (fun z => .inl (.inl z)) fun z => (im b z).elim (fun z => .inl (.inr z)) .inr
    obtain ⟨q, hk⟩ := ownAt_some eo
    refine ⟨a, rfl, k, S2.weak im', o2.mon (frz_weak im') fun _ z => z, ⟨fun z => S.nmc a ma (.inr (.inr z)), fun z => S.nmc a ma (.inl z), fun z => (S.lk a z).2 ma, S.mu a ma, S.mutThere ma⟩, ?_, fun b ob f e => ⟨⟨fun z => ?_, fun z => f.2 (muts_un b z)⟩, e⟩⟩
    · rcases hk with rfl | rfl
      · exact .inl rfl
      · obtain ⟨a', h1, h2⟩ := S.io i d q
        rw [k] at h2; cases h2
        exact .inr ⟨rfl, h1⟩
    · rcases z with z | z | z
      · exact f.1 (.inl z)
      · cases z; exact f.2 ma
      · exact f.1 (.inr (.inr z))
  cases m with
  | v =>
    have e : (toVal ρ r).map (fun p => ((.val p.1 : Slot), p.2, (none : Bk))) = some (s, ρ', b) := e
    cases et : toVal ρ r with
    | none => rw [et] at e; cases e
    | some dp =>
      obtain ⟨d, ρ2⟩ := dp
      rw [et] at e; cases e
      obtain ⟨S2, r2⟩ := toVal_ok Sx kx frx et
      have mm := toVal_mu (σ := σ) et
      have im : ∀ a, ((none : Option Addr) = some a ∨ X a) → X a := fun a z => z.elim (fun z => nomatch z) id
      exact ⟨none, S2.recast im, ⟨rfl, Rep.mon (frz_weak fun a z => z.imp id (im a)) _ _ r2⟩, trivial, (fun a z => nomatch z), mm, fun a o f e => ⟨⟨fun z => f.1 (z.imp id fun z => .inr (im a z)), fun z => f.2 (mm a z)⟩, e⟩⟩
  | r =>
    cases r with
    | val d =>
      cases e
      exact ⟨none, nil, .inl ⟨rfl, .inl (Rep.mon mnil _ _ k)⟩, trivial, (fun a z => nomatch z), fun _ z => z, mnil⟩
    | own d =>
      cases e
      obtain ⟨p, ev, mp, o⟩ := id k
      obtain ⟨S2, o2, mm⟩ := keepOwn d p rfl ev
      exact ⟨some p, S2, .inr ⟨p, rfl, ev, o2⟩, trivial, fun a z => by cases z; exact passOwn d p rfl ev, fun _ z => z, mm⟩
    | bor i =>
      simp only [give1] at e
      split at e
      · rename_i d κ eo
        cases e
        obtain ⟨a, ev, es, S2, o2, pk, hk, mm⟩ := out i d κ rfl eo
        exact ⟨some a, S2, .inr ⟨a, rfl, ev, o2⟩, ⟨a, rfl, ev, es, hk, .inl rfl⟩, fun b z => by cases z; exact pk, muts_un, mm⟩
      · rename_i no
        split at e
        · rename_i d ed
          cases e
          have k' : RvOk N (G.add fun a => (none : Option Addr) = some a ∨ X a).Mc σ H ρ (.bor i) v := k
          refine ⟨none, nil, .inl ⟨rfl, ?_⟩, trivial, (fun a z => nomatch z), fun _ z => z, mnil⟩
          -- what a slot that isn't changeable holds
          cases q : ρ[i]? with
          | none => rw [q] at ed; cases ed
          | some t =>
            rw [q] at ed
            obtain ⟨w, ew, kk⟩ := nil.slot i t q
            have k2 : σ[i]? = some (some v) := k
            rw [k2] at ew; cases ew
            cases t with
            | un => cases ed
            | val d' => cases ed; obtain ⟨x, ex, r⟩ := kk; cases ex; exact .inl r
            | own d' => exact absurd (show ownAt ρ i = some (d', .own) by unfold ownAt; rw [q]) (by rw [no]; simp)
            | io d' => exact absurd (show ownAt ρ i = some (d', .io) by unfold ownAt; rw [q]) (by rw [no]; simp)
            | lk d' =>
              cases ed
              obtain ⟨x, ex, r⟩ := kk; cases ex
              exact r
        · cases e
  | m =>
    cases r with
    | val d => cases e
    | own d =>
      cases e
      obtain ⟨p, ev, mp, o⟩ := id k
      obtain ⟨S2, o2, mm⟩ := keepOwn d p rfl ev
      exact ⟨some p, S2, ⟨p, rfl, ev, o2⟩, trivial, fun a z => by cases z; exact passOwn d p rfl ev, fun _ z => z, mm⟩
    | bor i =>
      simp only [give1] at e
      split at e
      · rename_i d κ eo
        cases e
        obtain ⟨a, ev, es, S2, o2, pk, hk, mm⟩ := out i d κ rfl eo
        exact ⟨some a, S2, ⟨a, rfl, ev, o2⟩, ⟨a, rfl, ev, es, hk, .inr rfl⟩, fun b z => by cases z; exact pk, muts_un, mm⟩
      · cases e
  | o =>
    cases r with
    | val d => cases e
    | own d =>
      cases e
      obtain ⟨p, ev, mp, o⟩ := id k
      obtain ⟨S2, o2, mm⟩ := keepOwn d p rfl ev
      exact ⟨some p, S2, ⟨p, rfl, ev, o2⟩, trivial, fun a z => by cases z; exact passOwn d p rfl ev, fun _ z => z, mm⟩
    | bor i =>
      simp only [give1] at e
      split at e
      · rename_i d eo
        cases e
        obtain ⟨a, ev, es, S2, o2, pk, hk, mm⟩ := out i d .own rfl (by unfold ownAt; rw [eo])
        exact ⟨some a, S2, ⟨a, rfl, ev, o2⟩, trivial, fun b z => by cases z; exact pk, muts_un, mm⟩
      · cases e
/-- all arguments are given -/
structure Give (N : Nm) (G : Gh) (σ : Sg) (H : Hp) (ρ ρ' : Env) (rs : List Rv) (vs : List V) (as : List Slot) (bs : List Bk) (ps : List (Option Addr)) : Prop where
  st : StOk N (G.add (inP ps)) σ H ρ'
  arg : ArgsOk N (Frz (G.add (inP ps)).Mc σ ρ') H G.Lk as vs ps
  bk : BksOk G.IO σ as vs ps bs
  pok : ∀ a, inP ps a → POk G H noA a
  mu : ∀ a, muts σ ρ' a → muts σ ρ a
  mon : Mon (Frz (G.add (ownAs rs vs)).Mc σ ρ) H (Frz (G.add (inP ps)).Mc σ ρ') H
theorem RvOk.move {Mc Mc' : Addr → Prop} {r : Rv} {v : V} (m : Mon (Frz Mc σ ρ) H (Frz Mc' σ ρ') H) (h : ∀ a, ownA r v a → Mc' a) (k : RvOk N Mc σ H ρ r v) : RvOk N Mc' σ H ρ' r v := by
  cases r with
  | val d => exact Rep.mon m _ _ k
  | bor i => exact k
  | own d => obtain ⟨p, e, _, o⟩ := k; exact ⟨p, e, h p e, o.mon m fun _ z => z⟩
theorem RvsOk.move {Mc Mc' : Addr → Prop} (m : Mon (Frz Mc σ ρ) H (Frz Mc' σ ρ') H) : ∀ {rs : List Rv} {vs : List V}, (∀ a, ownAs rs vs a → Mc' a) → RvsOk N Mc σ H ρ rs vs → RvsOk N Mc' σ H ρ' rs vs
  | [], _, _, h => h
  | r :: rs, _, h2, ⟨v, w, e, a, b, c⟩ => by
    subst e
    exact ⟨v, w, rfl, a.move m (fun x z => h2 x (.inl z)), RvsOk.move m (fun x z => h2 x (.inr z)) b, c⟩
theorem Mon.trans {F1 F2 F3 : Addr → Prop} {H1 H2 H3 : Hp} (a : Mon F1 H1 F2 H2) (b : Mon F2 H2 F3 H3) : Mon F1 H1 F3 H3 := fun x o f e => b x o (a x o f e).1 (a x o f e).2
theorem give_ok : ∀ {rs : List Rv} {vs : List V} {ms : List Mode} {as : List Slot} {bs : List Bk} {ρ ρ' : Env} {G : Gh}, StOk N (G.add (ownAs rs vs)) σ H ρ → RvsOk N (G.add (ownAs rs vs)).Mc σ H ρ rs vs → Fresh G (ownAs rs vs) → give ρ ms rs = some (as, ρ', bs) →
    ∃ ps, Give N G σ H ρ ρ' rs vs as bs ps
  | [], _, ms, as, bs, ρ, ρ', G, S, k, fr, e => by
    cases ms with
    | cons _ _ => cases e
    | nil =>
      cases e
      cases k
      exact ⟨[], S.recast fun a z => (by cases z), ⟨rfl, rfl⟩, rfl, (fun a z => by cases z), (fun _ z => z), frz_weak fun a z => z.imp id fun z => (by cases z)⟩
  | r :: rs, _, ms, as, bs, ρ, ρ', G, S, ⟨v, w, ev, k, ks, ds⟩, fr, e => by
    subst ev
    cases ms with
    | nil => cases e
    | cons m ms =>
      simp only [give] at e
      cases e1 : give1 ρ m r with
      | none => rw [e1] at e; cases e
      | some t =>
        obtain ⟨s, ρ1, b⟩ := t
        rw [e1] at e
        simp only [Option.bind_some] at e
        cases e2 : give ρ1 ms rs with
        | none => rw [e2] at e; cases e
        | some u =>
          obtain ⟨as2, ρ2, bs2⟩ := u
          rw [e2] at e
          cases e
          obtain ⟨p, g⟩ := give1_ok (G := G) (X := ownAs rs w) S k (fun a z => fr a (.inl z)) ds e1
          have im : ∀ a, ((G.add fun a => p = some a).add (ownAs rs w)).Mc a → (G.add fun a => p = some a ∨ ownAs rs w a).Mc a := fun a z => z.elim (fun z => z.elim .inl fun z => .inr (.inl z)) fun z => .inr (.inr z)
          have m1 : Mon (Frz (G.add (ownAs (r :: rs) (v :: w))).Mc σ ρ) H (Frz ((G.add fun a => p = some a).add (ownAs rs w)).Mc σ ρ1) H := g.mon.trans (frz_weak im)
          have S2 : StOk N ((G.add fun a => p = some a).add (ownAs rs w)) σ H ρ1 := g.st.weak im
          obtain ⟨ps, q⟩ := give_ok (G := G.add fun a => p = some a) S2 (ks.move m1 fun a z => .inr z) (fun a z => ⟨(fr a (.inr z)).1, fun y => y.elim (fr a (.inr z)).2.1 fun y => (g.pok a y).nx z, (fr a (.inr z)).2.2⟩) e2
          have im2 : ∀ a, (G.add (inP (p :: ps))).Mc a → ((G.add fun a => p = some a).add (inP ps)).Mc a := fun a z => z.elim (fun z => .inl (.inl z)) fun z => by
            rcases List.mem_cons.mp z with z | z
            · exact .inl (.inr z.symm)
            · exact .inr z
          have m2 : Mon (Frz ((G.add fun a => p = some a).add (ownAs rs w)).Mc σ ρ1) H (Frz (G.add (inP (p :: ps))).Mc σ ρ2) H := q.mon.trans (frz_weak im2)
          refine ⟨p :: ps, q.st.weak im2, ⟨v, w, p, ps, rfl, rfl, ArgOk.mon ((frz_weak im).trans m2) g.arg, ArgsOk.mon (frz_weak im2) q.arg, fun a e z => ?_⟩, ⟨g.bk, q.bk⟩, fun a z => ?_, fun a z => g.mu a (q.mu a z), m1.trans m2⟩
          · exact (q.pok a z).nm (.inr e)
          · rcases List.mem_cons.mp z with z | z
            · have := g.pok a z.symm
              exact ⟨(fun y => y), this.nm, this.nl, this.w, this.th⟩
            · have := q.pok a z
              exact ⟨(fun y => y), fun y => this.nm (.inl y), this.nl, this.w, this.th⟩

/-! ### the callee's state, and back -/
/-- the callee's ghost -/
def calleeGh (G : Gh) (σ : Sg) (H : Hp) (ρ1 : Env) (vs : List V) (as : List Slot) (ps : List (Option Addr)) : Gh where
  Mc := fun a => (G.Mc a ∨ inP ps a ∨ muts σ ρ1 a) ∧ ¬ muts (vs.map some) as a
  Lk := fun a => (G.Lk a ∨ inP ps a) ∧ ¬ muts (vs.map some) as a
  H0 := H
  W0 := muts (vs.map some) as
  IO := fun k a => vs[k]? = some (.ref a)
theorem ArgsOk.len {F : Addr → Prop} {Lk : Addr → Prop} : ∀ {as : List Slot} {vs : List V} {ps : List (Option Addr)}, ArgsOk N F H Lk as vs ps → vs.length = as.length ∧ ps.length = as.length
  | [], _, _, ⟨rfl, rfl⟩ => ⟨rfl, rfl⟩
  | s :: as, _, _, ⟨v, w, p, q, e1, e2, h, t, n⟩ => by
    subst e1 e2
    have := ArgsOk.len t
    exact ⟨by simp [this.1], by simp [this.2]⟩
theorem ArgsOk.get {F : Addr → Prop} {Lk : Addr → Prop} : ∀ {as : List Slot} {vs : List V} {ps : List (Option Addr)} {i : Nat} {s : Slot}, ArgsOk N F H Lk as vs ps → as[i]? = some s → ∃ v p, vs[i]? = some v ∧ ps[i]? = some p ∧ ArgOk N F H Lk s v p
  | [], _, _, _, _, _, e => by simp at e
  | s :: as, _, _, 0, _, ⟨v, w, p, q, e1, e2, h, t, n⟩, e => by
    subst e1 e2; simp at e; subst e; exact ⟨v, p, rfl, rfl, h⟩
  | s :: as, _, _, i + 1, _, ⟨v, w, p, q, e1, e2, h, t, n⟩, e => by
    subst e1 e2
    simpa using ArgsOk.get t (by simpa using e)
theorem ArgsOk.uniq {F : Addr → Prop} {Lk : Addr → Prop} : ∀ {as : List Slot} {vs : List V} {ps : List (Option Addr)} {i j : Nat} {a : Addr}, ArgsOk N F H Lk as vs ps → ps[i]? = some (some a) → ps[j]? = some (some a) → i = j
  | [], _, _, _, _, _, ⟨_, rfl⟩, e, _ => by simp at e
  | s :: as, _, _, 0, 0, _, _, _, _ => rfl
  | s :: as, _, _, 0, j + 1, a, ⟨v, w, p, q, e1, e2, h, t, n⟩, x, y => by
    subst e1 e2; simp at x y
    exact absurd (List.mem_of_getElem? y) (n a x)
  | s :: as, _, _, i + 1, 0, a, ⟨v, w, p, q, e1, e2, h, t, n⟩, x, y => by
    subst e1 e2; simp at x y
    exact absurd (List.mem_of_getElem? x) (n a y)
  | s :: as, _, _, i + 1, j + 1, a, ⟨v, w, p, q, e1, e2, h, t, n⟩, x, y => by
    subst e1 e2; simp at x y
    rw [ArgsOk.uniq t x y]
theorem ArgsOk.mutAddr {F : Addr → Prop} {Lk : Addr → Prop} {as : List Slot} {vs : List V} {ps : List (Option Addr)} {i : Nat} {a : Addr} (h : ArgsOk N F H Lk as vs ps) (m : isMut as i) (e : (vs.map some)[i]? = some (some (.ref a))) : ps[i]? = some (some a) := by
  obtain ⟨s, es, ms⟩ := isMut_iff.mp m
  obtain ⟨v, p, ev, ep, ao⟩ := h.get es
  rw [List.getElem?_map, ev] at e
  have e : v = .ref a := by simpa using e
  cases s with
  | own d => obtain ⟨b, h1, h2, _⟩ := ao; rw [e] at h2; cases h2; rw [ep, h1]
  | io d => obtain ⟨b, h1, h2, _⟩ := ao; rw [e] at h2; cases h2; rw [ep, h1]
  | _ => cases ms
/-- the callee starts -/
theorem Give.callee {rs : List Rv} {vs : List V} {as : List Slot} {bs : List Bk} {ps : List (Option Addr)} (g : Give N G σ H ρ ρ' rs vs as bs ps) : StOk N (calleeGh G σ H ρ' vs as ps) (vs.map some) H as := by
  have hl := g.arg.len
  have mp : ∀ a, muts (vs.map some) as a → inP ps a := fun a ⟨i, e, m⟩ => List.mem_of_getElem? (g.arg.mutAddr m e)
  have m : Mon (Frz (G.add (inP ps)).Mc σ ρ') H (Frz (calleeGh G σ H ρ' vs as ps).Mc (vs.map some) as) H := fun a o f e => by
    refine ⟨⟨fun z => ?_, fun z => f.1 (.inr (mp a z))⟩, e⟩
    rcases z.1 with z | z | z
    · exact f.1 (.inl z)
    · exact f.1 (.inr z)
    · exact f.2 z
  refine ⟨by rw [List.length_map]; exact hl.1, fun i s e => ?_, fun i j a e1 e2 m1 m2 => ?_, fun a z => ?_, fun a z w => w.2 z, fun b o e _ => e, fun _ e => e, fun a z => .inl z, fun a l => ⟨?_, l.2⟩, fun k d e => ?_⟩
  · obtain ⟨v, p, ev, ep, ao⟩ := g.arg.get e
    refine ⟨some v, by rw [List.getElem?_map, ev]; rfl, ?_⟩
    cases s with
    | un => trivial
    | val d => exact ⟨v, rfl, Rep.mon m _ _ ao.2⟩
    | own d => obtain ⟨a, _, e2, o⟩ := ao; exact ⟨a, by rw [e2], o.mon m fun _ z => z⟩
    | io d => obtain ⟨a, _, e2, o⟩ := ao; exact ⟨a, by rw [e2], o.mon m fun _ z => z⟩
    | lk d =>
      refine ⟨v, rfl, ?_⟩
      rcases ao with ⟨e0, h | ⟨a, e2, l, o⟩⟩ | ⟨a, e0, e2, o⟩
      · exact .inl (Rep.mon m _ _ h)
      · exact .inr ⟨a, e2, ⟨.inl l, fun z => (g.pok a (mp a z)).nl l⟩, o.mon m fun _ z => z⟩
      · refine .inr ⟨a, e2, ⟨.inr ?_, fun ⟨j, ej, mj⟩ => ?_⟩, o.mon m fun _ z => z⟩
        · exact List.mem_of_getElem? (by rw [ep, e0])
        · have q := g.arg.mutAddr mj ej
          have ij : i = j := g.arg.uniq (by rw [ep, e0]) q
          subst ij
          obtain ⟨t, et, mt⟩ := isMut_iff.mp mj
          rw [e] at et; cases et; cases mt
  · exact g.arg.uniq (g.arg.mutAddr m1 e1) (g.arg.mutAddr m2 e2)
  · rcases z.1 with z | z | z
    · exact g.st.mc a (.inl z)
    · exact (g.pok a z).th
    · exact g.st.mutThere z
  · rcases l.1 with l | l
    · exact (g.st.lk a l).1
    · exact (g.pok a l).th
  · obtain ⟨v, p, ev, ep, ao⟩ := g.arg.get e
    obtain ⟨a, _, e2, _⟩ := ao
    subst e2
    exact ⟨a, ev, by rw [List.getElem?_map, ev]; rfl⟩
/-- somebody else has changed what we leave alone, and there are new things E -/
theorem StOk.outsideE {E : Addr → Prop} (S : StOk N G σ H ρ) (ch : ∀ b o, H b = some o → ¬ M b → H' b = some o) (dm : ∀ b, H' b = none → H b = none) (hM : ∀ b, M b → G.Mc b ∧ ¬ G.Lk b ∧ (G.W0 b ∨ G.H0 b = none))
    (hE : ∀ b, E b → (H b = none ∨ G.Mc b) ∧ H' b ≠ none) : StOk N (G.add E) σ H' ρ := by
  have S1 := S.outside ch dm hM
  have m : Mon (Frz G.Mc σ ρ) H (Frz (G.add E).Mc σ ρ) H' := fun b o f e => by
    refine ⟨⟨fun z => ?_, f.2⟩, ch b o e fun z => f.1 (hM b z).1⟩
    rcases z with z | z
    · exact f.1 z
    · rcases (hE b z).1 with w | w
      · rw [e] at w; cases w
      · exact f.1 w
  refine ⟨S.len, fun j t q => ?_, S.dist, fun b z w => ?_, fun b z w => ?_, S1.fr, S1.dom, S1.mu, S1.lk, S.io⟩
  · obtain ⟨v, ev, k⟩ := S.slot j t q
    refine ⟨v, ev, k.mono m (fun _ z => z) fun a o h1 h2 e => ch a o e fun z => ?_⟩
    cases ht : t.mut with
    | true => exact S.nmc a ⟨j, by rw [ev, h1 ht], isMut_iff.mpr ⟨t, q, ht⟩⟩ (hM a z).1
    | false => exact (hM a z).2.1 (h2 ht)
  · rcases z with z | z
    · exact S1.mc b z w
    · exact (hE b z).2 w
  · rcases w with w | w
    · exact S.nmc b z w
    · rcases (hE b w).1 with q | q
      · exact S.mutThere z q
      · exact S.nmc b z q
def lentA : List Bk → List (Option Addr) → Addr → Prop
  | b :: bs, p :: ps => fun a => (b ≠ none ∧ p = some a) ∨ lentA bs ps a
  | _, _ => noA
theorem lentA_inP : ∀ {bs : List Bk} {ps : List (Option Addr)} {a : Addr}, lentA bs ps a → inP ps a
  | [], _, _, h => by cases h
  | _ :: _, [], _, h => by cases h
  | b :: bs, p :: ps, a, h => by
    rcases h with h | h
    · exact List.mem_cons.mpr (.inl h.2.symm)
    · exact List.mem_cons.mpr (.inr (lentA_inP h))
/-- what a lent thing holds behind the call -/
def backD (o : Slot) (d : D) : D := match o with | .io d' => d' | _ => d
/-- every lent thing holds what it should -/
def BackOk (N : Nm) (F : Addr → Prop) (H : Hp) : List Bk → List Slot → List (Option Addr) → Prop
  | [], _, _ => True
  | none :: bs, _ :: os, _ :: ps => BackOk N F H bs os ps
  | some (_, _, d) :: bs, o :: os, p :: ps => (∀ a, p = some a → ORep N F H a (backD o d)) ∧ BackOk N F H bs os ps
  | _, _, _ => False
theorem takeBack_ok : ∀ {bs : List Bk} {outs as : List Slot} {vs : List V} {ps : List (Option Addr)} {ρ ρ2 : Env} {G : Gh}, StOk N (G.add (lentA bs ps)) σ H ρ → BksOk G.IO σ as vs ps bs → BackOk N F H bs outs ps →
    (∀ b, F b → ¬ G.Mc b ∧ ¬ muts σ ρ b ∧ ¬ lentA bs ps b) → (∀ a, lentA bs ps a → ¬ G.Mc a ∧ ¬ G.Lk a ∧ (G.W0 a ∨ G.H0 a = none)) → (∀ (i j : Nat) (a : Addr), ps[i]? = some (some a) → ps[j]? = some (some a) → i = j) → takeBack bs outs ρ = some ρ2 →
    StOk N G σ H ρ2 ∧ ∀ b, muts σ ρ2 b → muts σ ρ b ∨ lentA bs ps b
  | [], outs, as, vs, ps, ρ, ρ2, G, S, bk, bo, hF, hl, hd, e => by
    cases outs with
    | cons _ _ => cases e
    | nil => cases e; exact ⟨S.drop, fun _ z => .inl z⟩
  | b :: bs, outs, as, vs, ps, ρ, ρ2, G, S, bk, bo, hF, hl, hd, e => by
    cases outs with
    | nil => cases b <;> cases e
    | cons o os =>
      cases ps with
      | nil => cases b <;> exact False.elim bo
      | cons p ps =>
        cases as with
        | nil => cases (show b :: bs = [] from bk)
        | cons s as =>
          cases vs with
          | nil => cases (show b :: bs = [] from bk)
          | cons v vs =>
            obtain ⟨b1, b2⟩ := bk
            have hd2 : ∀ (i j : Nat) (a : Addr), ps[i]? = some (some a) → ps[j]? = some (some a) → i = j := fun i j a h1 h2 => by
              have := hd (i + 1) (j + 1) a (by simpa using h1) (by simpa using h2)
              omega
            cases b with
            | none =>
              have im : ∀ a, lentA bs ps a → lentA (none :: bs) (p :: ps) a := fun a z => .inr z
              obtain ⟨q1, q2⟩ := takeBack_ok (S.recast im) b2 bo (fun b f => ⟨(hF b f).1, (hF b f).2.1, fun z => (hF b f).2.2 (im b z)⟩) (fun a z => hl a (im a z)) hd2 e
              exact ⟨q1, fun b z => (q2 b z).imp id (im b)⟩
            | some t =>
              obtain ⟨i, k, d⟩ := t
              obtain ⟨a, ep, ev, es, hk, hs⟩ := b1
              subst ep
              simp only [takeBack] at e
              cases e1 : takeBack bs os ρ with
              | none => rw [e1] at e; cases e
              | some ρ1 =>
                rw [e1] at e
                simp only [Option.bind_some] at e
                have im : ∀ x, lentA (some (i, k, d) :: bs) (some a :: ps) x → (x = a ∨ lentA bs ps x) := fun x z => z.imp (fun z => by cases z.2; rfl) id
                have im' : ∀ x, (x = a ∨ lentA bs ps x) → lentA (some (i, k, d) :: bs) (some a :: ps) x := fun x z => z.imp (fun z => ⟨by simp, by rw [z]⟩) id
                have S1 : StOk N ((G.add fun x => x = a).add (lentA bs ps)) σ H ρ := S.weak fun x z => z.elim (fun z => z.elim .inl fun z => .inr (im' x (.inl z))) fun z => .inr (im' x (.inr z))
                have na : ∀ x, lentA bs ps x → x ≠ a := fun x z y => by
                  subst y
                  obtain ⟨j, hj⟩ := List.getElem?_of_mem (lentA_inP z)
                  have := hd 0 (j + 1) x rfl (by simpa using hj)
                  omega
                obtain ⟨q1, q2⟩ := takeBack_ok (G := G.add fun x => x = a) S1 b2 bo.2 (fun b f => ⟨fun z => z.elim (hF b f).1 fun z => (hF b f).2.2 (im' b (.inl z)), (hF b f).2.1, fun z => (hF b f).2.2 (im' b (.inr z))⟩)
                  (fun x z => ⟨fun y => y.elim (hl x (im' x (.inr z))).1 fun y => na x z y, (hl x (im' x (.inr z))).2.1, (hl x (im' x (.inr z))).2.2⟩) hd2 e1
                split at e
                · rename_i eu
                  have e' : ρ1.set i (k (backD o d)) = ρ2 := by
                    have := Option.some.inj e
                    rw [← this]
                    cases o <;> rfl
                  subst e'
                  have h0 := hl a (im' a (.inl rfl))
                  refine ⟨q1.putBack eu es ((bo.1 a rfl).mon (fun b ob f e => ⟨⟨fun z => z.elim (hF b f).1 fun z => (hF b f).2.2 (im' b (.inl z)), fun z => ?_⟩, e⟩) fun _ z => z) hk h0.1 h0.2.1 h0.2.2, fun b z => ?_⟩
                  · rcases q2 b z with z | z
                    · exact (hF b f).2.1 z
                    · exact (hF b f).2.2 (im' b (.inr z))
                  · obtain ⟨j, ej, mj⟩ := z
                    rcases isMut_set mj with ⟨rfl, _⟩ | ⟨ne, mj⟩
                    · rw [es] at ej; cases ej
                      exact .inr (im' a (.inl rfl))
                    · exact (q2 b ⟨j, ej, mj⟩).imp id fun z => im' b (.inr z)
                · cases e
/-- what a def leaves of its arguments -/
def OutsOk (as outs : List Slot) : Prop := (∀ (k : Nat) (d : D), as[k]? = some (.io d) → ∃ d', outs[k]? = some (.io d')) ∧ ∀ (k : Nat) (d : D), as[k]? = some (.lk d) → outs[k]? = some .un
theorem backOk_of : ∀ {bs : List Bk} {outs : List Slot} {as' : List Slot} {vs' : List V} {ps' : List (Option Addr)} {IO : Nat → Addr → Prop}, BksOk IO σ as' vs' ps' bs → outs.length = as'.length → vs'.length = as'.length → ps'.length = as'.length → bs.length = as'.length →
    (∀ (k i : Nat) (κ : D → Slot) (d : D) (a : Addr) (o : Slot), bs[k]? = some (some (i, κ, d)) → ps'[k]? = some (some a) → outs[k]? = some o → ORep N F H a (backD o d)) → BackOk N F H bs outs ps'
  | [], _, _, _, _, _, _, _, _, _, _, _ => trivial
  | b :: bs, outs, as', vs', ps', IO, bk, h1, h2, h3, h4, h => by
    cases as' with
    | nil => simp at h4
    | cons s as' =>
      cases outs with
      | nil => simp at h1
      | cons o outs =>
        cases ps' with
        | nil => simp at h3
        | cons p ps' =>
          cases vs' with
          | nil => simp at h2
          | cons v vs' =>
            obtain ⟨b1, b2⟩ := bk
            have t := backOk_of b2 (by simpa using h1) (by simpa using h2) (by simpa using h3) (by simpa using h4) fun k i κ d a o e1 e2 e3 => h (k + 1) i κ d a o (by simpa using e1) (by simpa using e2) (by simpa using e3)
            cases b with
            | none => exact t
            | some x =>
              obtain ⟨i, κ, d⟩ := x
              exact ⟨fun a e => h 0 i κ d a o rfl (by rw [e]; rfl) rfl, t⟩
theorem BksOk.get : ∀ {as : List Slot} {vs : List V} {ps : List (Option Addr)} {bs : List Bk} {IO : Nat → Addr → Prop} {k : Nat} {b : Bk}, BksOk IO σ as vs ps bs → bs[k]? = some b → ∃ s v p, as[k]? = some s ∧ vs[k]? = some v ∧ ps[k]? = some p ∧ BkOk IO σ s v p b
  | as, vs, ps, [], _, _, _, _, e => by simp at e
  | [], vs, ps, b :: bs, _, _, _, h, e => by cases (show b :: bs = [] from h)
  | s :: as, [], ps, b :: bs, _, _, _, h, e => by cases (show b :: bs = [] from h)
  | s :: as, v :: vs, [], b :: bs, _, _, _, h, e => by cases (show b :: bs = [] from h)
  | s :: as, v :: vs, p :: ps, b :: bs, _, 0, _, h, e => by
    simp at e; subst e
    exact ⟨s, v, p, rfl, rfl, rfl, h.1⟩
  | s :: as, v :: vs, p :: ps, b :: bs, _, k + 1, _, h, e => by simpa using BksOk.get h.2 (by simpa using e)
theorem takeBack_len : ∀ {bs : List Bk} {outs : List Slot} {ρ ρ2 : Env}, takeBack bs outs ρ = some ρ2 → bs.length = outs.length
  | [], [], _, _, _ => rfl
  | [], _ :: _, _, _, e => by cases e
  | none :: bs, o :: os, _, _, e => by simp [takeBack_len (bs := bs) (outs := os) e]
  | none :: bs, [], _, _, e => by cases e
  | some (i, k, d) :: bs, [], _, _, e => by cases e
  | some (i, k, d) :: bs, o :: os, ρ, _, e => by
    simp only [takeBack] at e
    cases e1 : takeBack bs os ρ with
    | none => rw [e1] at e; cases e
    | some ρ1 => simp [takeBack_len e1]
theorem lentA_get : ∀ {bs : List Bk} {ps : List (Option Addr)} {a : Addr}, lentA bs ps a → ∃ (k : Nat) (i : Nat) (κ : D → Slot) (d : D), bs[k]? = some (some (i, κ, d)) ∧ ps[k]? = some (some a)
  | [], _, _, h => by cases h
  | _ :: _, [], _, h => by cases h
  | b :: bs, p :: ps, a, h => by
    rcases h with ⟨h1, h2⟩ | h
    · cases b with
      | none => exact absurd rfl h1
      | some t => exact ⟨0, t.1, t.2.1, t.2.2, rfl, by rw [h2]; rfl⟩
    · obtain ⟨k, i, κ, d, e1, e2⟩ := lentA_get h
      exact ⟨k + 1, i, κ, d, by simpa using e1, by simpa using e2⟩
/-- behind the call -/
theorem Give.back {rs : List Rv} {vs : List V} {as : List Slot} {bs : List Bk} {ps : List (Option Addr)} {outs : List Slot} {E K : Addr → Prop} {ρ2 : Env} (g : Give N G σ H ρ ρ' rs vs as bs ps)
    (hK : ∀ a, K a → inP ps a ∧ muts (vs.map some) outs a ∧ ¬ lentA bs ps a) (S : StOk N ((calleeGh G σ H ρ' vs as ps).add E) (vs.map some) H' outs) (fr : Fresh (calleeGh G σ H ρ' vs as ps) E) (hE : ∀ b, E b → H' b ≠ none) (ho : OutsOk as outs) (e : takeBack bs outs ρ' = some ρ2) :
    StOk N ((G.add E).add K) σ H' ρ2 ∧ Mon (Frz ((calleeGh G σ H ρ' vs as ps).add E).Mc (vs.map some) outs) H' (Frz ((G.add E).add K).Mc σ ρ2) H' ∧ Fresh G E := by
  have hl := g.arg.len
  have mp : ∀ a, muts (vs.map some) as a → inP ps a := fun a ⟨i, e, m⟩ => List.mem_of_getElem? (g.arg.mutAddr m e)
  have notM : ∀ a, G.Mc a → ¬ muts (vs.map some) as a := fun a z w => (g.pok a (mp a w)).nm z
  have frE : Fresh G E := fun p hp => by
    obtain ⟨q1, q2, q3⟩ := fr p hp
    refine ⟨?_, fun z => q2 ⟨.inl z, notM p z⟩, fun z => q3 ⟨.inl z, fun w => (g.pok p (mp p w)).nl z⟩⟩
    rcases q1 with q1 | q1
    · exact .inl (g.st.dom p q1)
    · exact (g.pok p (mp p q1)).w.symm
  have dm : ∀ b, H' b = none → H b = none := S.dom
  have S2 : StOk N ((G.add (inP ps)).add E) σ H' ρ' := g.st.outsideE (M := muts (vs.map some) as) (fun b o h n => S.fr b o h n) dm (fun b z => ⟨.inr (mp b z), (g.pok b (mp b z)).nl, (g.pok b (mp b z)).w⟩) fun b z => by
    refine ⟨?_, hE b z⟩
    rcases (fr b z).1 with q | q
    · exact .inl q
    · exact .inr (.inr (mp b q))
  have S3 : StOk N (((G.add E).add K).add (lentA bs ps)) σ H' ρ' := S2.weak fun a z => z.elim (fun z => z.elim (fun z => z.elim (fun z => .inl (.inl z)) .inr) fun z => .inl (.inr (hK a z).1)) fun z => .inl (.inr (lentA_inP z))
  -- what the callee left still is out of our hands
  have notLk : ∀ (k : Nat) (a : Addr) (d : D), as[k]? = some (.lk d) → ps[k]? = some (some a) → ¬ muts (vs.map some) as a := fun k a d h1 h2 ⟨j, ej, mj⟩ => by
    have ij := g.arg.uniq h2 (g.arg.mutAddr mj ej)
    subst ij
    obtain ⟨t, et, mt⟩ := isMut_iff.mp mj
    rw [h1] at et; cases et; cases mt
  have hF : ∀ b, Frz ((calleeGh G σ H ρ' vs as ps).add E).Mc (vs.map some) outs b → ¬ ((G.add E).add K).Mc b ∧ ¬ muts σ ρ' b ∧ ¬ lentA bs ps b := fun b f => by
    refine ⟨fun z => ?_, fun z => ?_, fun z => ?_⟩
    · rcases z with (z | z) | z
      · exact f.1 (.inl ⟨.inl z, notM b z⟩)
      · exact f.1 (.inr z)
      · exact f.2 (hK b z).2.1
    · exact f.1 (.inl ⟨.inr (.inr z), fun w => g.st.nmc b z (.inr (mp b w))⟩)
    · obtain ⟨k, i, κ, d, e1, e2⟩ := lentA_get z
      obtain ⟨s, v, p, h1, h2, h3, q, hq, hv, _, _, hs⟩ := g.bk.get e1
      rw [e2] at h3; cases h3; cases hq
      rcases hs with rfl | rfl
      · exact f.1 (.inl ⟨.inr (.inl (lentA_inP z)), notLk k b d h1 e2⟩)
      · obtain ⟨d', hd'⟩ := ho.1 k d h1
        exact f.2 ⟨k, by rw [List.getElem?_map, h2, hv]; rfl, d', .inr hd'⟩
  have hlen : bs.length = as.length := by
    rw [takeBack_len e]
    have := S.len
    rw [List.length_map] at this
    omega
  have bo : BackOk N (Frz ((calleeGh G σ H ρ' vs as ps).add E).Mc (vs.map some) outs) H' bs outs ps := backOk_of g.bk (by rw [← takeBack_len e, hlen]) hl.1 hl.2 hlen fun k i κ d a o e1 e2 e3 => by
    obtain ⟨s, v, p, h1, h2, h3, q, hq, hv, _, _, hs⟩ := g.bk.get e1
    rw [e2] at h3; cases h3; cases hq
    rcases hs with rfl | rfl
    · have := ho.2 k d h1
      rw [e3] at this; cases this
      obtain ⟨v', p', hv', hp', ao⟩ := g.arg.get h1
      rw [h2] at hv'; cases hv'
      rw [e2] at hp'; cases hp'
      rcases ao with ⟨z, _⟩ | ⟨a', z1, z2, o'⟩
      · cases z
      · cases z1
        refine o'.mon (fun b ob f e => ?_) fun ob z => S.fr a ob z (notLk k a d h1 e2)
        have e : H b = some ob := e
        have nM : ¬ muts (vs.map some) as b := fun w => f.1 (.inr (mp b w))
        refine ⟨⟨fun z => ?_, fun z => ?_⟩, S.fr b ob e nM⟩
        · rcases z with z | z
          · rcases z.1 with z | z | z
            · exact f.1 (.inl z)
            · exact f.1 (.inr z)
            · exact f.2 z
          · rcases (fr b z).1 with w | w
            · have w : H b = none := w
              rw [w] at e; cases e
            · exact nM w
        · rcases S.mu b z with w | w
          · exact nM w
          · have w : H b = none := w
            rw [w] at e; cases e
    · obtain ⟨d', hd'⟩ := ho.1 k d h1
      rw [e3] at hd'; cases hd'
      obtain ⟨w, ew, a', ea, o'⟩ := S.slot k _ e3
      rw [List.getElem?_map, h2, hv] at ew
      have ew : some (V.ref a) = w := by simpa using ew
      rw [← ew] at ea; cases ea
      exact o'
  obtain ⟨q1, q2⟩ := takeBack_ok (G := (G.add E).add K) S3 g.bk bo hF (fun a z => by
    have pk := g.pok a (lentA_inP z)
    refine ⟨fun w => ?_, pk.nl, pk.w⟩
    rcases w with (w | w) | w
    · exact pk.nm w
    rotate_left
    · exact (hK a w).2.2 z
    · obtain ⟨k, i, κ, d, e1, e2⟩ := lentA_get z
      obtain ⟨s, v, p, h1, h2, h3, q, hq, hv, _, _, hs⟩ := g.bk.get e1
      rw [e2] at h3; cases h3; cases hq
      rcases hs with rfl | rfl
      · exact (fr a w).2.2 ⟨.inr (lentA_inP z), notLk k a d h1 e2⟩
      · obtain ⟨d', hd'⟩ := ho.1 k d h1
        exact S.nmc a ⟨k, by rw [List.getElem?_map, h2, hv]; rfl, d', .inr hd'⟩ (.inr w)) (fun i j a h1 h2 => g.arg.uniq h1 h2) e
  refine ⟨q1, fun b o f e => ⟨⟨(hF b f).1, fun z => ?_⟩, e⟩, frE⟩
  rcases q2 b z with z | z
  · exact (hF b f).2.1 z
  · exact (hF b f).2.2 z
end
end Wf

/-! Wf: one rule a construct -/
namespace Wf
open PySem PySem.Spec PyProof.Rows L2
section
variable {X : Cx} {N : Nm} {W : WX} {G : Gh} {σ : Sg} {H H' : Hp} {ρ ρ' : Env}
/-- the end of an expression that gives a value -/
theorem OutOk.val {d : D} {v : V} {Q : VK} (S : StOk N G σ H ρ) (h : OutOk (kE N) W G σ Q (.ok (.val d) ρ)) (r : Rep N (Frz G.Mc σ ρ) H d v) : Q v H :=
  OutOk.res (o := (false, d)) S h v H (Same.refl H) r
theorem OutOk.tst {b : Bool} {Q : Bool → Hp → Prop} (S : StOk N G σ H ρ) (h : OutOk (kT N) W G σ Q (.ok b ρ)) : Q b H := by
  refine h b H ?_ rfl Fresh.no
  show StOk N (G.add noA) σ H ρ
  rw [Gh.add_no]; exact S
theorem StOk.un {M : Addr → Prop} (S : StOk N (G.add M) σ H ρ) (h : ∀ a, ¬ M a) : StOk N G σ H ρ := S.drop
/-- a result is handed on as it is -/
theorem OutOk.pass {α β : Type} {K : Kit N α β} {a : α} {b : β} {Q : β → Hp → Prop} (S : StOk N (G.add (K.own a b)) σ H ρ) (k : K.ok (G.add (K.own a b)).Mc σ H ρ a b) (f : Fresh G (K.own a b)) (h : OutOk K W G σ Q (.ok a ρ)) : Q b H := h b H S k f
/-- run as the tail -/
theorem tK_tail {α β : Type} {K : Kit N α β} {f : Env → Out α} {Q : β → Hp → Prop} (S : StOk N G σ H ρ) (h : OutOk K W G σ Q (f ρ)) : tK K W f σ H Q := ⟨G, ρ, S, h⟩

/-! ### names, constants -/
theorem de_var {i : Nat} {x : Str} {pos : Pos} (hN : X.N[i]? = some x) (hv : Vis X.env.scope x) (hd : (x == ("__debug__" : Str)) = false) (hcd : (x == ("__classdict__" : Str)) = false) : PE X (.Name x pos) (tE N W (varE i)) := by
  refine ⟨fun pins s σ H Q I ⟨G, ρ, S, h⟩ => ?_⟩
  cases q : ρ[i]? with
  | none => simp only [varE, q] at h; exact h.elim
  | some t =>
    obtain ⟨w, ew, k⟩ := S.slot i t q
    have fin : ∀ v, w = some v → Q v H → wpAny (model X.prog X.w) X.A (eval (.Name x pos) X.env) (EP X pins σ Q) X.xe s := fun v e hq => (pe_var hN hv hd hcd).run pins s σ H Q I ⟨v, by rw [ew, e], hq⟩
    cases t with
    | un => simp only [varE, q] at h; exact h.elim
    | val d =>
      simp only [varE, q] at h
      obtain ⟨v, e, r⟩ := k
      exact fin v e (h.val S r)
    | own d =>
      simp only [varE, q] at h
      obtain ⟨a, e, r⟩ := k
      refine fin _ e (OutOk.pass (K := kE N) (a := .bor i) (b := .ref a) ?_ ?_ Fresh.no h)
      · show StOk N (G.add noA) σ H ρ
        rw [Gh.add_no]; exact S
      · show σ[i]? = some (some (.ref a)); rw [ew, e]
    | io d =>
      simp only [varE, q] at h
      obtain ⟨a, e, r⟩ := k
      refine fin _ e (OutOk.pass (K := kE N) (a := .bor i) (b := .ref a) ?_ ?_ Fresh.no h)
      · show StOk N (G.add noA) σ H ρ
        rw [Gh.add_no]; exact S
      · show σ[i]? = some (some (.ref a)); rw [ew, e]
    | lk d =>
      simp only [varE, q] at h
      obtain ⟨v, e, r⟩ := k
      refine fin _ e (OutOk.pass (K := kE N) (a := .bor i) (b := v) ?_ ?_ Fresh.no h)
      · show StOk N (G.add noA) σ H ρ
        rw [Gh.add_no]; exact S
      · show σ[i]? = some (some v); rw [ew, e]
/-- an expression whose value is told -/
theorem de_const {e : Expr} {d : D} {v : V} (f : ∀ F H, Rep N F H d v) (h : PE X e (tC v)) : PE X e (tE N W fun ρ => .ok (.val d) ρ) :=
  ⟨fun pins s σ H Q I ⟨G, ρ, S, hq⟩ => h.run pins s σ H Q I (hq.val S (f _ _))⟩
theorem de_un {e : Expr} {op : UnaryOp} {pos : Pos} {fa : Env → Out Rv} {f : D → Option (Bool × D)} (ho : UnR X (unaryOp op) (rD1 N f)) (ha : PE X e (tE N W fa)) : PE X (.UnaryOp op e pos) (tE N W fun ρ => (fa ρ).bind fun r ρ => op1 f r ρ) :=
  ⟨fun pins s σ H Q I h => (pe_un ho ha).run pins s σ H Q I (un_read h)⟩
theorem de_bin {a b : Expr} {op : Operator} {pos : Pos} {fa fb : Env → Out Rv} (ha : PE X a (tE N W fa)) (hb : PE X b (tE N W fb)) : PE X (.BinOp a op b pos) (tE N W fun ρ => (fa ρ).bind fun r ρ => (fb ρ).bind fun s ρ => op2 (binD op) r s ρ) :=
  ⟨fun pins s σ H Q I h => (pe_op (op_bin op) ha hb).run pins s σ H Q I (bin_read h)⟩
theorem un_negD : UnR X (unaryOp .USub) (rD1 N negD) := by
  intro pins s σ H x v Q I rx ⟨F, dx, o, fF, ax, e, q⟩
  unfold negD at e
  split at e
  · cases e; cases ax.int
    exact un_neg pins s σ H _ v Q I rx ⟨_, rfl, q.flat rfl _ rfl⟩
  · cases e
theorem un_invD : UnR X (unaryOp .Invert) (rD1 N invD) := by
  intro pins s σ H x v Q I rx ⟨F, dx, o, fF, ax, e, q⟩
  unfold invD at e
  split at e
  · cases e; cases ax.int
    exact un_inv pins s σ H _ v Q I rx ⟨_, rfl, q.flat rfl _ rfl⟩
  · cases e
theorem de_cmp (hu : X.A.units + 64 < cLine) {a b : Expr} {op : CmpOp} {pos : Pos} {fa fb : Env → Out Rv} (hm : behindInMarks op b = false) (ha : PE X a (tE N W fa)) (hb : PE X b (tE N W fb)) :
    PE X (.Compare a [op] [b] pos) (tE N W fun ρ => (fa ρ).bind fun r ρ => (fb ρ).bind fun s ρ => op2 (cmp2D op) r s ρ) :=
  ⟨fun pins s σ H Q I h => (pe_cmpR (op_cmpD hu op) ha hb hm).run pins s σ H Q I (bin_read h)⟩
theorem de_sub {a b : Expr} {pos : Pos} {fa fb : Env → Out Rv} (hs : PlainIx b) (ha : PE X a (tE N W fa)) (hb : PE X b (tE N W fb)) :
    PE X (.Subscript a b pos) (tE N W fun ρ => (fa ρ).bind fun r ρ => (fb ρ).bind fun s ρ => op2 sub2 r s ρ) :=
  ⟨fun pins s σ H Q I h => (pe_ix ix_sub ha hb hs).run pins s σ H Q I (bin_read h)⟩
/-! ### tests -/
/-- the truth of what an expression gives -/
theorem truV {F : Addr → Prop} {d : D} {v : V} {b : Bool} (h : Rd1 N F H d v) (e : truD d = some b) : TruV X.K v H b := by
  cases d <;> first | (cases h.non; cases e; rfl) | (cases h.bl; cases e; rfl) | (cases h.int; cases e; rfl) | (simp only [truD] at e; cases e; done) | (exact Option.noConfusion e) | skip
  · cases h.str
    simp only [truD] at e
    split at e
    · rename_i hz; cases e; exact ⟨of_decide_eq_true hz, rfl⟩
    · cases e
  · cases e
    obtain ⟨a, vs, rfl, ha, r⟩ := h.tup
    refine .inr (.inl ⟨vs, .of ha, ?_⟩)
    rename_i xs
    cases xs with
    | nil => cases r; rfl
    | cons _ _ => obtain ⟨_, _, rfl, _⟩ := r; rfl
  · cases e
    obtain ⟨a, vs, rfl, ha, r⟩ := h.lst
    refine .inl ⟨vs, .of ha, ?_⟩
    rename_i xs
    cases xs with
    | nil => cases r; rfl
    | cons _ _ => obtain ⟨_, _, rfl, _⟩ := r; rfl
  · cases e
    obtain ⟨a, vs, rfl, ha, r⟩ := h.dic
    refine .inr (.inr ⟨vs, ha, ?_⟩)
    rename_i xs
    cases xs with
    | nil => cases r; rfl
    | cons p _ => obtain ⟨k, d⟩ := p; obtain ⟨_, _, rfl, _⟩ := r; rfl
/-- a test of an expression of a plain form -/
theorem dt_of {e : Expr} {fa : Env → Out Rv} (he : ∀ whole, isTrue e X.env whole = (do let v ← whole; standAt e.pos; holding [v] (truthy v))) (ha : PE X e (tE N W fa)) : PT X e (tT N W fun ρ => (fa ρ).bind tru1) := by
  refine ⟨fun pins s σ H Q I h => ?_⟩
  obtain ⟨G, ρ, S, h⟩ := h
  refine (pt_truth ha he).run pins s σ H Q I (tK_then (L := kE N) S h fun r ρ1 v H1 S1 k1 fr1 h1 => ?_)
  unfold tru1 at h1
  cases ed : rdc ρ1 r with
  | none => rw [ed] at h1; exact h1.elim
  | some d =>
    rw [ed] at h1
    simp only [Option.bind_some] at h1
    split at h1
    · rename_i b eb
      exact ⟨b, truV (RvOk.rd S1 k1 ed) eb, h1.tst S1⟩
    · exact h1.elim
theorem dt_not {e : Expr} {pos : Pos} {f : Env → Out Bool} (h : PT X e (tT N W f)) : PT X (.UnaryOp .Not e pos) (tT N W fun ρ => (f ρ).bind fun c ρ => .ok (!c) ρ) := by
  refine ⟨fun pins s σ H Q I hq => ?_⟩
  obtain ⟨G, ρ, S, hq⟩ := hq
  refine (pt_not h).run pins s σ H Q I (tK_then (L := kT N) S hq fun b ρ1 c H1 S1 k1 fr1 h1 => ?_)
  cases (show b = c from k1)
  exact h1.tst S1
theorem dt_and {e : Expr} {rest : List Expr} {b : Expr} {pos : Pos} {f g : Env → Out Bool} (h1 : PT X e (tT N W f)) (h2 : PW X (.BoolOp .And (b :: rest) pos) (tT N W g)) : PW X (.BoolOp .And (e :: b :: rest) pos) (tT N W fun ρ => (f ρ).bind fun c ρ => if c then g ρ else .ok false ρ) := by
  refine ⟨fun whole pins s σ H Q I hq => ?_⟩
  obtain ⟨G, ρ, S, hq⟩ := hq
  refine (pw_and h1 h2).run whole pins s σ H Q I (tK_then (L := kT N) S hq fun b ρ1 c H1 S1 k1 fr1 h1 => ?_)
  cases (show b = c from k1)
  cases b with
  | true => exact iteT ⟨_, ρ1, S1, h1⟩
  | false => exact iteF (h1.tst S1)
theorem dt_or {e : Expr} {rest : List Expr} {b : Expr} {pos : Pos} {f g : Env → Out Bool} (h1 : PT X e (tT N W f)) (h2 : PW X (.BoolOp .Or (b :: rest) pos) (tT N W g)) : PW X (.BoolOp .Or (e :: b :: rest) pos) (tT N W fun ρ => (f ρ).bind fun c ρ => if c then .ok true ρ else g ρ) := by
  refine ⟨fun whole pins s σ H Q I hq => ?_⟩
  obtain ⟨G, ρ, S, hq⟩ := hq
  refine (pw_or h1 h2).run whole pins s σ H Q I (tK_then (L := kT N) S hq fun b ρ1 c H1 S1 k1 fr1 h1 => ?_)
  cases (show b = c from k1)
  cases b with
  | true => exact iteT (h1.tst S1)
  | false => exact iteF ⟨_, ρ1, S1, h1⟩
/-- not, as a value -/
theorem de_not {e : Expr} {pos : Pos} {f : Env → Out Rv} (h : PE X e (tE N W f)) : PE X (.UnaryOp .Not e pos) (tE N W fun ρ => (f ρ).bind fun r ρ => op1 ntD r ρ) := by
  refine ⟨fun pins s σ H Q I hq => ?_⟩
  obtain ⟨G, ρ, S, hq⟩ := hq
  refine (pe_notT h).run pins s σ H Q I (tK_then (L := kE N) S hq fun r ρ1 v H1 S1 k1 fr1 h1 => ?_)
  unfold op1 at h1
  split at h1
  · rename_i d ed
    unfold ntD at h1
    cases eb : truD d with
    | none => rw [eb] at h1; exact h1.elim
    | some b =>
      rw [eb] at h1
      exact ⟨b, truV (RvOk.rd S1 k1 ed) eb, OutOk.val S1 h1 rfl⟩
  · exact h1.elim
/-- the value of and, or over truth values -/
theorem de_and {e : Expr} {rest : List Expr} {b : Expr} {pos : Pos} {f g : Env → Out Rv} (h1 : PE X e (tE N W f)) (h2 : PE X (.BoolOp .And (b :: rest) pos) (tE N W g)) :
    PE X (.BoolOp .And (e :: b :: rest) pos) (tE N W fun ρ => (f ρ).bind fun r ρ => (match rdc ρ r with | some (.bl true) => g ρ | some (.bl false) => .ok (.val (.bl false)) ρ | _ => .stuck)) := by
  refine ⟨fun pins s σ H Q I hq => ?_⟩
  obtain ⟨G, ρ, S, hq⟩ := hq
  refine (pe_and h1 h2).run pins s σ H Q I (tK_then (L := kE N) S hq fun r ρ1 v H1 S1 k1 fr1 h1 => ?_)
  split at h1
  · rename_i ed
    cases (RvOk.rd S1 k1 ed).bl
    exact ⟨true, rfl, iteT ⟨_, ρ1, S1, h1⟩⟩
  · rename_i ed
    cases (RvOk.rd S1 k1 ed).bl
    exact ⟨false, rfl, iteF (h1.val S1 rfl)⟩
  · exact h1.elim
theorem de_or {e : Expr} {rest : List Expr} {b : Expr} {pos : Pos} {f g : Env → Out Rv} (h1 : PE X e (tE N W f)) (h2 : PE X (.BoolOp .Or (b :: rest) pos) (tE N W g)) :
    PE X (.BoolOp .Or (e :: b :: rest) pos) (tE N W fun ρ => (f ρ).bind fun r ρ => (match rdc ρ r with | some (.bl true) => .ok (.val (.bl true)) ρ | some (.bl false) => g ρ | _ => .stuck)) := by
  refine ⟨fun pins s σ H Q I hq => ?_⟩
  obtain ⟨G, ρ, S, hq⟩ := hq
  refine (pe_or h1 h2).run pins s σ H Q I (tK_then (L := kE N) S hq fun r ρ1 v H1 S1 k1 fr1 h1 => ?_)
  split at h1
  · rename_i ed
    cases (RvOk.rd S1 k1 ed).bl
    exact ⟨true, rfl, iteT (h1.val S1 rfl)⟩
  · rename_i ed
    cases (RvOk.rd S1 k1 ed).bl
    exact ⟨false, rfl, iteF ⟨_, ρ1, S1, h1⟩⟩
  · exact h1.elim
theorem de_ite {c a b : Expr} {pos : Pos} {f : Env → Out Bool} {fa fb : Env → Out Rv} (hc : PT X c (tT N W f)) (ha : PE X a (tE N W fa)) (hb : PE X b (tE N W fb)) : PE X (.IfExp c a b pos) (tE N W fun ρ => (f ρ).bind fun k ρ => if k then fa ρ else fb ρ) := by
  refine ⟨fun pins s σ H Q I hq => ?_⟩
  obtain ⟨G, ρ, S, hq⟩ := hq
  refine (pe_ifExp hc ha hb).run pins s σ H Q I (tK_then (L := kT N) S hq fun k ρ1 c H1 S1 k1 fr1 h1 => ?_)
  cases (show k = c from k1)
  cases k with
  | true => exact iteT ⟨_, ρ1, S1, h1⟩
  | false => exact iteF ⟨_, ρ1, S1, h1⟩
/-- a comparison as a test -/
theorem dt_cmp (hu : X.A.units + 64 < cLine) {a b : Expr} {op : CmpOp} {pos : Pos} {fa fb : Env → Out Rv} (hm : behindInMarks op b = false) (ha : PE X a (tE N W fa)) (hb : PE X b (tE N W fb)) :
    PT X (.Compare a [op] [b] pos) (tT N W fun ρ => (fa ρ).bind fun r ρ => (fb ρ).bind fun s ρ => (match rdc ρ r, rdc ρ s with
    | some x, some y => (match cmpD op x y with | some c => .ok c ρ | none => .stuck)
    | _, _ => .stuck)) := by
  refine ⟨fun pins s σ H Q I hq => ?_⟩
  obtain ⟨G, ρ, S, hq⟩ := hq
  refine (pt_cmpR (op_cmpD (N := N) hu op) ha hb hm).run pins s σ H Q I (tK_then (L := kE N) S hq fun r ρ1 x H1 S1 k1 fr1 h1 => tK_then (L := kE N) S1 h1 fun s ρ2 y H2 S2 k2 fr2 h2 => ?_)
  have k1 := RvOk.later S1 S2 fr2 k1
  split at h2
  · rename_i dx dy ex ey
    split at h2
    · rename_i c ec
      refine ⟨_, dx, dy, (false, .bl c), S2.freshF, k1.rd S2 ex, RvOk.rd S2 k2 ey, by unfold cmp2D; rw [ec]; rfl, fun v H' sm r => ?_⟩
      cases r
      exact ⟨c, rfl, h2.tst (S2.grow sm)⟩
    · exact h2.elim
  · exact h2.elim
end
end Wf

/-! Wf: arguments, displays, calls, objects -/
namespace Wf
open PySem PySem.Spec PyProof.Rows L2
theorem Fresh.back0 {N : Nm} {G : Gh} {σ : Sg} {H : Hp} {ρ : Env} (S : StOk N G σ H ρ) {M' : Addr → Prop} (h : Fresh (G.at σ H ρ) M') : Fresh G M' := fun b hb => by
  obtain ⟨q1, q2⟩ := h b hb
  refine ⟨?_, q2⟩
  rcases q1 with q1 | q1
  · exact .inl (S.dom b q1)
  · rcases S.mu b q1 with w | w
    · exact .inr w
    · exact .inl w
def notStar : Expr → Bool
  | .Starred .. => false
  | _ => true
theorem starEach_cons {e : Expr} {es : List Expr} {env : PySem.Env} (h : notStar e = true) : starEach (e :: es) env = (false, eval e env) :: starEach es env := by
  cases e <;> first | rfl | cases h
theorem star_any {pos : Pos} {env : PySem.Env} : ∀ {es : List Expr}, es.all notStar = true → (backTo pos (starEach es env)).any (·.1) = false
  | [], _ => rfl
  | e :: es, h => by
    rw [List.all_cons, Bool.and_eq_true] at h
    rw [starEach_cons h.1]
    show (false || (backTo pos (starEach es env)).any (·.1)) = false
    rw [star_any h.2]; rfl
section
variable {X : Cx} {N : Nm} {W : WX} {G : Gh} {σ : Sg} {H H' : Hp} {ρ ρ' : Env}
theorem da_nil : PA X [] (tA N W fun ρ => .ok [] ρ) := by
  refine ⟨fun pos pins s σ H Q I ⟨G, ρ, S, h⟩ => pa_nil.run pos pins s σ H Q I (h [] H ?_ rfl Fresh.no)⟩
  exact S.weak fun a z => z.elim id fun z => z.elim
theorem da_cons {e : Expr} {es : List Expr} {f : Env → Out Rv} {g : Env → Out (List Rv)} (hn : notStar e = true) (ha : PE X e (tE N W f)) (hr : PA X es (tA N W g)) :
    PA X (e :: es) (tA N W fun ρ => (f ρ).bind fun r ρ => (g ρ).bind fun rs ρ => .ok (r :: rs) ρ) := by
  refine ⟨fun pos pins s σ H Q I ⟨G, ρ, S, h⟩ => (pa_cons ha hr (starEach_cons hn)).run pos pins s σ H Q I ⟨G.at σ H ρ, ρ, S.at, ?_⟩⟩
  dsimp only at h
  cases e1 : f ρ with
  | stuck => rw [e1] at h; exact h
  | exc x ρ' =>
    rw [e1] at h
    intro cls dd H' S' X'
    exact h cls dd H' (S.comp0 S') X'
  | ok r ρ1 =>
    rw [e1] at h
    intro v H1 S1 k1 fr1
    refine ⟨((G.at σ H ρ).add (ownA r v)).at σ H1 ρ1, ρ1, S1.at, ?_⟩
    have Sr : StOk N (G.add (ownA r v)) σ H1 ρ1 := S.comp S1
    cases e2 : g ρ1 with
    | stuck => simp only [Out.bind, e2] at h; exact h
    | exc x ρ' =>
      simp only [Out.bind, e2] at h
      intro cls dd H' S' X'
      exact h cls dd H' (S.comp (S1.comp0 S')).drop (X'.mon (frz_weak fun _ z => .inl z))
    | ok rs ρ2 =>
      simp only [Out.bind, e2] at h
      intro vs H2 S2 k2 fr2
      have S2' := S1.comp S2
      have S3 : StOk N (G.add fun a => ownA r v a ∨ ownAs rs vs a) σ H2 ρ2 := S.comp (S2'.weak fun a z => z.elim (fun z => .inl (.inl z)) fun z => z.elim (fun z => .inl (.inr z)) .inr)
      refine h (v :: vs) H2 S3 ⟨v, vs, rfl, ?_, ?_, fun a h1 h2 => (fr2 a h2).2.1 (.inr h1)⟩ fun a z => ?_
      · exact (RvOk.later S1 S2 fr2 k1).weak (fun a z => z.elim (fun z => .inl (.inl z)) fun z => z.elim (fun z => .inl (.inr z)) .inr) fun a z => .inr (.inl z)
      · exact RvsOk.weak (fun a z => z.elim (fun z => .inl (.inl z)) fun z => z.elim (fun z => .inl (.inr z)) .inr) (fun a z => .inr (.inr z)) k2
      · rcases z with z | z
        · exact Fresh.back0 S fr1 a z
        · obtain ⟨q1, q2, q3⟩ := Fresh.back0 S1 fr2 a z
          refine ⟨?_, fun y => q2 (.inl y), q3⟩
          rcases q1 with q1 | q1
          · exact .inl (S.dom a q1)
          · exact (S.mu a q1).symm
/-- results as values, one after the other -/
theorem toVals_ok : ∀ {rs : List Rv} {vs : List V} {ds : List D} {ρ ρ' : Env}, StOk N (G.add (ownAs rs vs)) σ H ρ → RvsOk N (G.add (ownAs rs vs)).Mc σ H ρ rs vs → Fresh G (ownAs rs vs) → toVals rs ρ = some (ds, ρ') →
    StOk N G σ H ρ' ∧ Reps N (Frz G.Mc σ ρ') H ds vs ∧ Mon (Frz (G.add (ownAs rs vs)).Mc σ ρ) H (Frz G.Mc σ ρ') H
  | [], _, ds, ρ, ρ', S, k, fr, e => by
    cases e; cases k
    exact ⟨S.drop, rfl, frz_weak fun _ z => .inl z⟩
  | r :: rs, _, ds, ρ, ρ', S, ⟨v, w, ev, k, ks, dd⟩, fr, e => by
    subst ev
    simp only [toVals] at e
    cases e1 : toVal ρ r with
    | none => rw [e1] at e; cases e
    | some p =>
      obtain ⟨d, ρ1⟩ := p
      rw [e1] at e
      simp only [Option.bind_some] at e
      cases e2 : toVals rs ρ1 with
      | none => rw [e2] at e; cases e
      | some q =>
        obtain ⟨ds2, ρ2⟩ := q
        rw [e2] at e; cases e
        have Sx : StOk N ((G.add (ownAs rs w)).add (ownA r v)) σ H ρ := S.weak fun a z => z.elim (fun z => z.elim .inl fun z => .inr (.inr z)) fun z => .inr (.inl z)
        have kx : RvOk N ((G.add (ownAs rs w)).add (ownA r v)).Mc σ H ρ r v := k.weak (fun a z => z.elim (fun z => z.elim .inl fun z => .inr (.inr z)) fun z => .inr (.inl z)) fun a z => .inr z
        obtain ⟨S1, r1⟩ := toVal_ok Sx kx (fun a z => ⟨(fr a (.inl z)).1, fun y => y.elim (fr a (.inl z)).2.1 (dd a z), (fr a (.inl z)).2.2⟩) e1
        have mm := toVal_mu (σ := σ) e1
        have m1 : Mon (Frz (G.add (ownAs (r :: rs) (v :: w))).Mc σ ρ) H (Frz (G.add (ownAs rs w)).Mc σ ρ1) H := fun a o f e => ⟨⟨fun z => f.1 (z.imp id .inr), fun z => f.2 (mm a z)⟩, e⟩
        obtain ⟨S2, r2, m2⟩ := toVals_ok S1 (ks.move m1 fun a z => .inr z) (fun a z => fr a (.inr z)) e2
        exact ⟨S2, ⟨v, w, rfl, Rep.mon m2 _ _ r1, r2⟩, m1.trans m2⟩
/-- an argument list, then the rest -/
theorem args_then {f : Env → Out (List Rv)} {α β : Type} {K : Kit N α β} {Q : β → Hp → Prop} {k : List Rv → Env → Out α} {R : List V → Hp → Prop} (S : StOk N G σ H ρ) (h : OutOk K W G σ Q ((f ρ).bind k))
    (next : ∀ rs ρ1 vs H1 (G1 : Gh), StOk N (G1.add (ownAs rs vs)) σ H1 ρ1 → RvsOk N (G1.add (ownAs rs vs)).Mc σ H1 ρ1 rs vs → Fresh G1 (ownAs rs vs) → OutOk K W G1 σ Q (k rs ρ1) → R vs H1) : tA N W f σ H R := by
  refine ⟨G.at σ H ρ, ρ, S.at, ?_⟩
  cases e : f ρ with
  | stuck => rw [e] at h; exact h
  | exc x ρ' =>
    rw [e] at h
    intro cls dd H' S' X
    exact h cls dd H' (S.comp0 S') X
  | ok rs ρ1 =>
    rw [e] at h
    intro vs H1 S1 k1 fr1
    exact next rs ρ1 vs H1 G (S.comp S1) (by exact k1) (Fresh.back0 S fr1) h
theorem de_tup {es : List Expr} {n : Nat} {pos : Pos} {f : Env → Out (List Rv)} (h : PA X es (tA N W f)) : PE X (.Tuple es n pos) (tE N W fun ρ => (f ρ).bind fun rs ρ => (match toVals rs ρ with
    | some (ds, ρ) => if decide (ds.length ≤ sizeLine) then .ok (.val (.tup ds)) ρ else .stuck
    | none => .stuck)) := by
  refine ⟨fun pins s σ H Q I ⟨G, ρ, S, hq⟩ => (pe_tup h).run pins s σ H Q I (args_then (K := kE N) S hq fun rs ρ1 vs H1 G1 S1 k1 fr1 h1 => ?_)⟩
  split at h1
  · rename_i ds ρ2 e
    obtain ⟨S2, r2, _⟩ := toVals_ok S1 k1 fr1 e
    split at h1
    · rename_i hz
      refine ⟨by rw [← r2.length]; exact of_decide_eq_true hz, fun p hn => ?_⟩
      exact (OutOk.res (o := (false, .tup ds)) S2 h1).tup S2.freshF rfl r2 hn
    · exact h1.elim
  · exact h1.elim
theorem de_lst {es : List Expr} {pos : Pos} {f : Env → Out (List Rv)} (h : PA X es (tA N W f)) : PE X (.List es pos) (tE N W fun ρ => (f ρ).bind fun rs ρ => (match toVals rs ρ with
    | some (ds, ρ) => if decide (ds.length ≤ sizeLine) then .ok (.own (.lst ds)) ρ else .stuck
    | none => .stuck)) := by
  refine ⟨fun pins s σ H Q I ⟨G, ρ, S, hq⟩ => (pe_lst h).run pins s σ H Q I (args_then (K := kE N) S hq fun rs ρ1 vs H1 G1 S1 k1 fr1 h1 => ?_)⟩
  split at h1
  · rename_i ds ρ2 e
    obtain ⟨S2, r2, _⟩ := toVals_ok S1 k1 fr1 e
    split at h1
    · rename_i hz
      refine ⟨by rw [← r2.length]; exact of_decide_eq_true hz, fun p hn => ?_⟩
      exact (OutOk.res (o := (true, .lst ds)) S2 h1).lst rfl r2 hn
    · exact h1.elim
  · exact h1.elim
theorem Rd1.mon {F F' : Addr → Prop} (m : Mon F H F' H) {d : D} {v : V} (h : Rd1 N F H d v) : Rd1 N F' H d v := by
  rcases h with h | ⟨a, e, h⟩
  · exact .inl (Rep.mon m _ _ h)
  · exact .inr ⟨a, e, h.mon m fun _ z => z⟩
theorem rds_of {M : Addr → Prop} (S : StOk N (G.add M) σ H ρ) : ∀ {rs : List Rv} {vs : List V} {ds : List D}, RvsOk N (G.add M).Mc σ H ρ rs vs → rdcs ρ rs = some ds → Rds N (Frz G.Mc σ ρ) H ds vs
  | [], _, _, k, e => by cases e; exact k
  | r :: rs, _, ds, ⟨v, w, ev, k, ks, _⟩, e => by
    subst ev
    simp only [rdcs] at e
    cases e1 : rdc ρ r with
    | none => rw [e1] at e; cases e
    | some d =>
      rw [e1] at e
      cases e2 : rdcs ρ rs with
      | none => rw [e2] at e; cases e
      | some ds2 =>
        rw [e2] at e; cases e
        exact ⟨v, w, rfl, (k.rd S e1).mon (frz_weak fun _ z => .inl z), rds_of S ks e2⟩
/-- a built-in's call: what its reading asks -/
theorem bi_read {b : Bi} {f : Env → Out (List Rv)} {Q : VK} (h : tE N W (fun ρ => (f ρ).bind fun rs ρ => bi1 b rs ρ) σ H Q) : tA N W f σ H fun vs H1 => rB N b vs H1 Q := by
  obtain ⟨G, ρ, S, h⟩ := h
  refine args_then (K := kE N) S h fun rs ρ1 vs H1 G1 S1 k1 fr1 h1 => ?_
  unfold bi1 at h1
  split at h1
  · rename_i ds e
    obtain ⟨o, eo⟩ := mkRv_some h1
    rw [eo] at h1
    have S1' : StOk N G1 σ H1 ρ1 := S1.drop
    exact ⟨_, ds, o, S1'.freshF, rds_of S1 k1 e, eo, OutOk.res S1' h1⟩
  · exact h1.elim
/-! ### calls of defs -/
theorem RvsOk.length {N : Nm} {Mc : Addr → Prop} {σ : Sg} {H : Hp} {ρ : Env} : ∀ {rs : List Rv} {vs : List V}, RvsOk N Mc σ H ρ rs vs → vs.length = rs.length
  | [], _, h => by cases h; rfl
  | _ :: _, _, ⟨v, w, e, _, t, _⟩ => by subst e; simp [RvsOk.length t]
theorem give_len : ∀ {rs : List Rv} {ms : List Mode} {ρ ρ' : Env} {as : List Slot} {bs : List Bk}, give ρ ms rs = some (as, ρ', bs) → rs.length = ms.length
  | [], [], _, _, _, _, _ => rfl
  | [], _ :: _, _, _, _, _, e => by cases e
  | _ :: _, [], _, _, _, _, e => by cases e
  | r :: rs, m :: ms, ρ, ρ', as, bs, e => by
    simp only [give] at e
    cases e1 : give1 ρ m r with
    | none => rw [e1] at e; cases e
    | some p =>
      rw [e1] at e
      simp only [Option.bind_some] at e
      cases e2 : give p.2.1 ms rs with
      | none => rw [e2] at e; cases e
      | some q => simp [give_len e2]
/-- a def's promise by what it does to content -/
def CRes (N : Nm) (G : Gh) (vs : List V) (Q : VK) (E : XK) : COut → Prop
  | .ret (.bor _) _ => False
  | .ret r outs => ∀ v H', StOk N (G.add (ownA r v)) (vs.map some) H' outs → RvOk N (G.add (ownA r v)).Mc (vs.map some) H' outs r v → Fresh G (ownA r v) → Q v H'
  | .exc x outs => ∀ cls dd H', StOk N G (vs.map some) H' outs → XOk N (Frz G.Mc (vs.map some) outs) H' x cls dd → E cls dd H'
  | .stuck => False
def spD (N : Nm) (n : Nat) (cl : List Slot → COut) : Sp := fun vs H Q E => ∃ G as, StOk N G (vs.map some) H as ∧ G.IO = (fun k a => vs[k]? = some (.ref a)) ∧ vs.length = n ∧ CRes N G vs Q E (cl as)
/-- what every def's call leaves of its arguments -/
def ClOk (cl : Cl) : Prop := ∀ f as, match cl f as with
  | .ret _ outs => OutsOk as outs
  | .exc _ outs => OutsOk as outs
  | .stuck => True
theorem call_read {cl : List Slot → COut} {ms : List Mode} (hcl : ∀ as, match cl as with
  | .ret _ outs => OutsOk as outs
  | .exc _ outs => OutsOk as outs
  | .stuck => True) {rs : List Rv} {vs : List V} {Q : VK} (S : StOk N (G.add (ownAs rs vs)) σ H ρ) (k : RvsOk N (G.add (ownAs rs vs)).Mc σ H ρ rs vs) (fr : Fresh G (ownAs rs vs))
    (h : OutOk (kE N) W G σ Q (callG cl ms rs ρ)) : spD N ms.length cl vs H Q (fun cls dd H' => W cls dd σ H') := by
  unfold callG at h
  split at h
  · exact h.elim
  · rename_i as ρ1 bs eg
    obtain ⟨ps, g⟩ := give_ok S k fr eg
    refine ⟨calleeGh G σ H ρ1 vs as ps, as, g.callee, rfl, by rw [k.length, give_len eg], ?_⟩
    have hc := hcl as
    split at h
    · exact h.elim
    · rename_i r outs nb er
      rw [er] at hc ⊢
      split at h
      · rename_i ρ2 et
        cases r with
        | bor i => exact absurd rfl (nb i)
        | val d =>
          intro v H' S' k' fr'
          obtain ⟨q1, q2, q3⟩ := g.back (K := noA) (fun a z => z.elim) S' fr' (fun b z => z.elim) hc et
          rw [Gh.add_no] at q1 q2
          exact h v H' q1 (Rep.mon q2 _ _ k') q3
        | own d =>
          intro v H' S' k' fr'
          obtain ⟨p, ev, mp, o⟩ := k'
          have hE : ∀ b, ownA (.own d) v b → H' b ≠ none := fun b z => S'.mc b (.inr z)
          obtain ⟨q1, q2, q3⟩ := g.back (K := noA) (fun a z => z.elim) S' fr' hE hc et
          rw [Gh.add_no] at q1 q2
          exact h v H' q1 ⟨p, ev, .inr ev, o.mon q2 fun _ z => z⟩ q3
      · exact h.elim
    · rename_i x outs er
      rw [er] at hc ⊢
      split at h
      · rename_i ρ2 et
        intro cls dd H' S' X'
        have S'' : StOk N ((calleeGh G σ H ρ1 vs as ps).add noA) (vs.map some) H' outs := by rw [Gh.add_no]; exact S'
        obtain ⟨q1, q2, q3⟩ := g.back (K := noA) (fun a z => z.elim) S'' Fresh.no (fun b z => z.elim) hc et
        rw [Gh.add_no, Gh.add_no] at q1
        rw [Gh.add_no, Gh.add_no, Gh.add_no] at q2
        exact h cls dd H' q1 (X'.mon q2)
      · exact h.elim
    · exact h.elim
end
end Wf

/-! Wf: calls of defs, of methods, of classes -/
namespace Wf
open PySem PySem.Spec PyProof.Rows L2
def toV : D → V
  | .bl b => .bl b | .int i => .int i | .str x => .str x | _ => .non
section
variable {X : Cx} {N : Nm} {W : WX} {G : Gh} {σ : Sg} {H H' : Hp} {ρ ρ' : Env} {F : Addr → Prop} {Mc : Addr → Prop}
theorem rep_toV {d : D} (f : flatD d = true) : Rep N F H d (toV d) := by
  cases d <;> first | rfl | cases f
theorem ownAs_vals : ∀ {ds : List D} {a : Addr}, ¬ ownAs (ds.map Rv.val) (ds.map toV) a
  | [], a, h => h
  | d :: ds, a, h => h.elim id ownAs_vals
theorem ownAs_fill : ∀ {rs : List Rv} {vs : List V} {ds : List D}, vs.length = rs.length → ownAs (rs ++ ds.map .val) (vs ++ ds.map toV) = ownAs rs vs
  | [], [], ds, _ => by
    funext a
    exact propext ⟨fun h => (ownAs_vals h).elim, fun h => h.elim⟩
  | [], _ :: _, _, h => by cases h
  | _ :: _, [], _, h => by cases h
  | r :: rs, v :: vs, ds, h => by
    have ih := ownAs_fill (rs := rs) (vs := vs) (ds := ds) (by simpa using h)
    funext a
    show (ownA r v a ∨ ownAs (rs ++ ds.map .val) (vs ++ ds.map toV) a) = (ownA r v a ∨ ownAs rs vs a)
    rw [ih]
theorem rvs_vals : ∀ {ds : List D}, ds.all flatD = true → RvsOk N Mc σ H ρ (ds.map Rv.val) (ds.map toV)
  | [], _ => rfl
  | d :: ds, h => by
    rw [List.all_cons, Bool.and_eq_true] at h
    exact ⟨_, _, rfl, rep_toV h.1, rvs_vals h.2, fun a z => z.elim⟩
theorem RvsOk.fill : ∀ {rs : List Rv} {vs : List V} {ds : List D}, RvsOk N Mc σ H ρ rs vs → ds.all flatD = true → RvsOk N Mc σ H ρ (rs ++ ds.map .val) (vs ++ ds.map toV)
  | [], _, ds, h, f => by cases h; exact rvs_vals f
  | r :: rs, _, ds, ⟨v, w, e, a, b, c⟩, f => by
    subst e
    have eo := ownAs_fill (ds := ds) b.length
    exact ⟨v, w ++ ds.map toV, rfl, a, RvsOk.fill b f, fun x hx z => c x hx (by have z : ownAs (rs ++ ds.map Rv.val) (w ++ ds.map toV) x := z; rw [eo] at z; exact z)⟩
theorem all_drop {ds : List D} {n : Nat} (h : ds.all flatD = true) : (ds.drop n).all flatD = true := by
  rw [List.all_eq_true] at h ⊢
  exact fun x hx => h x (List.mem_of_mem_drop hx)
/-- what a def's promise is, told of the arguments that are written -/
def spC (N : Nm) (fd : Fd) (cl : List Slot → COut) : Sp := fun vs H Q E => vs.length + fd.kwo ≤ fd.modes.length ∧ spD N fd.modes.length cl (vs ++ (fillD fd.dfl fd.modes.length vs.length).map toV) H Q E
theorem callD_read {T : Tab} {cl : Cl} {f : Nat} {fd : Fd} (hcl : ClOk cl) (hT : T.fn f = some fd) {rs : List Rv} {vs : List V} {Q : VK} (S : StOk N (G.add (ownAs rs vs)) σ H ρ) (k : RvsOk N (G.add (ownAs rs vs)).Mc σ H ρ rs vs) (fr : Fresh G (ownAs rs vs))
    (h : OutOk (kE N) W G σ Q (callD T cl f rs ρ)) : spC N fd (cl f) vs H Q (fun cls dd H' => W cls dd σ H') := by
  unfold callD at h
  rw [hT] at h
  dsimp only at h
  split at h
  · rename_i hf0
    rw [Bool.and_eq_true, decide_eq_true_eq] at hf0
    obtain ⟨hf, hko⟩ := hf0
    have hl := k.length
    have hd : (fillD fd.dfl fd.modes.length rs.length).all flatD = true := all_drop hf
    have e := ownAs_fill (rs := rs) (vs := vs) (ds := fillD fd.dfl fd.modes.length rs.length) hl
    unfold spC
    rw [hl]
    refine ⟨hko, ?_⟩
    refine call_read (hcl f) (rs := rs ++ (fillD fd.dfl fd.modes.length rs.length).map .val) ?_ ?_ ?_ h
    · rw [e]; exact S
    · rw [e]; exact k.fill hd
    · rw [e]; exact fr
  · exact h.elim
theorem ta_nil {R : List V → Hp → Prop} (h : tA N W (fun ρ => .ok [] ρ) σ H R) : R [] H := by
  obtain ⟨G, ρ, S, h⟩ := h
  exact h [] H (S.weak fun a z => z.elim id fun z => z.elim) rfl Fresh.no
/-- the call's node, for any number of plain arguments -/
theorem cw_any {pins : List (Addr × Obj)} {s : Shared} {f : Value} {first : List Value} {es : List Expr} {pos : Pos} {Q : Value → Shared → Prop} {fa : PySem.Env → Unit} {g : Env → Out (List Rv)} {R : List V → Hp → Prop} (I : Inv X pins σ H s) (hk : PySem.W.keepIn X.K f = true) (hst : es.all notStar = true)
    (hn : es = [] → g = fun ρ => .ok [] ρ) (ha : PA X es (tA N W g)) (h : tA N W g σ H R)
    (next : ∀ us vs s1 H1, Inv X pins σ H1 s1 → Vals vs us → R vs H1 → wpAny (model X.prog X.w) X.A (call f (first ++ us)) Q X.xe s1) :
    wpAny (model X.prog X.w) X.A (callWith pos f first (backTo pos (starEach es X.env)) []) Q X.xe s := by
  cases es with
  | nil =>
    rw [hn rfl] at h
    exact PySem.W.callWith_K0 I.kIn hk (next [] [] s H I .nil (ta_nil h))
  | cons e es =>
    rw [List.all_cons, Bool.and_eq_true] at hst
    refine PySem.W.callWith_K (h₀ := X.base) I.ok.mod.kin hk (thn (ha.run pos pins s σ H _ I h) fun us s1 ⟨vs, H1, I1, r, q⟩ => ⟨I1.kIn, ?_⟩) (starEach_cons hst.1) (star_any hst.2)
    exact next us vs s1 H1 I1 r q
theorem run_fnRS {pins : List (Addr × Obj)} {s : Shared} {k : Nat} {f : Addr} {sp : Sp} {Q : VK} {us : List Value} {vs : List V} (tk : Takes X W) (F : FnR X.prog X.w X.K X.mg X.base (L2.CX X.prog X.w) k f sp) (hr : Room k X.A) (I : Inv X pins σ H s) (r : Vals vs us) (h : sp vs H Q (fun cls dd H' => W cls dd σ H')) :
    wpAny (model X.prog X.w) X.A (call (.ref f) us) (EP X pins σ Q) X.xe s := by
  refine wpAny_call (codeAny_mono (F X.A X.stack s H us vs Q _ hr I.env0 r h) fun r s' hq => ?_)
  cases r with
  | error e => exact passAt tk σ pins H s e s' I hq
  | ok fl =>
    cases fl with
    | ret u => exact I.after hq
    | next => exact False.elim hq
    | brk => exact False.elim hq
    | cont => exact False.elim hq
theorem de_call {T : Tab} {cl : Cl} {k : Nat} {a : Addr} {fd : Fd} {f : Nat} {x : Str} {p pos : Pos} {es : List Expr} {fa : Env → Out (List Rv)} (tk : Takes X W) (hcl : ClOk cl) (hT : T.fn f = some fd)
    (F : FnR X.prog X.w X.K X.mg X.base (L2.CX X.prog X.w) k a (spC N fd (cl f))) (hr : Room k X.A) (hg : Gl X x) (hm : X.mg x = some (.ref a)) (hk : PySem.W.keepIn X.K (.ref a) = true)
    (hdb : (x == ("__debug__" : Str)) = false) (hst : es.all notStar = true) (hn : es = [] → fa = fun ρ => .ok [] ρ) (ha : PA X es (tA N W fa)) :
    PE X (.Call (.Name x p) es [] pos) (tE N W fun ρ => (fa ρ).bind fun rs ρ => callD T cl f rs ρ) := by
  refine ⟨fun pins s σ H Q I ⟨G, ρ, S, hq⟩ => ?_⟩
  refine wpAny_Call_Name_kw (ld_glob I hg hm ?_ hdb)
  refine cw_any (fa := fun _ => ()) (R := fun vs H1 => spC N fd (cl f) vs H1 Q (fun cls dd H' => W cls dd σ H')) I hk hst hn ha (args_then (K := kE N) S hq fun rs ρ1 vs H1 G1 S1 k1 fr1 h1 => callD_read hcl hT S1 k1 fr1 h1) fun us vs s1 H1 I1 r q => ?_
  exact run_fnRS tk F hr I1 r q
/-! ### methods -/
def plainO : Expr → Bool
  | .Call (.Name _ _) [] [] _ => false
  | _ => true
theorem attributeBase_plain {o : Expr} {m : Str} {env : PySem.Env} {whole : Sem Value} (h : plainO o = true) : attributeBase o m env whole = whole := by
  unfold attributeBase
  split
  · cases h
  · rfl
theorem star_all {pos : Pos} {env : PySem.Env} : ∀ {es : List Expr}, es.all notStar = true → (backTo pos (starEach es env)).all (fun x => !x.1) = true
  | [], _ => rfl
  | e :: es, h => by
    rw [List.all_cons, Bool.and_eq_true] at h
    rw [starEach_cons h.1]
    show (!false && (backTo pos (starEach es env)).all (fun x => !x.1)) = true
    rw [star_all h.2]; rfl
theorem meth_tree {o : Expr} {m : Str} {apos pos : Pos} {args : List Expr} {env : PySem.Env} (ho : plainO o = true) (hst : args.all notStar = true) (hn : args.length < 30) (hline : (apos.endLine == pos.line) = true) :
    eval (.Call (.Attribute o m apos) args [] pos) env = (do
      let ov ← eval o env
      standAt apos.atName
      let (f, first) ← holding [ov] (getMethod ov m (do return (← importBound o env).getD true))
      callWith pos f first (backTo pos (starEach args env)) (backToKw pos (keywordEach [] env))) := by
  have hf : methodCallForm (args.length + ([] : List Keyword).length) (backTo pos (starEach args env)) (backToKw pos (keywordEach [] env)) = true := by
    unfold methodCallForm
    rw [star_all hst]
    show (true && true && decide (args.length + 0 + 0 < 30)) = true
    simpa using hn
  rw [arm_eval_Call, attributeBase_plain ho]
  unfold methodCall
  rw [hf]
  unfold calleeOf methodCallPos
  simp only [hline, Bool.not_true, Bool.false_or, if_true]
  rfl
/-- one thing, then the rest, nothing set aside -/
theorem tK_then2 {α β γ δ : Type} {K : Kit N α β} {L : Kit N γ δ} {Q : β → Hp → Prop} {f : Env → Out γ} {k : γ → Env → Out α} {R : δ → Hp → Prop} (S : StOk N G σ H ρ) (h : OutOk K W G σ Q ((f ρ).bind k))
    (next : ∀ r ρ1 v H1, StOk N ((G.at σ H ρ).add (L.own r v)) σ H1 ρ1 → L.ok ((G.at σ H ρ).add (L.own r v)).Mc σ H1 ρ1 r v → Fresh (G.at σ H ρ) (L.own r v) → OutOk K W G σ Q (k r ρ1) → R v H1) : tK L W f σ H R := by
  refine ⟨G.at σ H ρ, ρ, S.at, ?_⟩
  cases e : f ρ with
  | stuck => rw [e] at h; exact h
  | exc x ρ' =>
    rw [e] at h
    intro cls dd H' S' X
    exact h cls dd H' (S.comp0 S') X
  | ok r ρ' =>
    rw [e] at h
    intro v H' S' r' fr
    exact next r ρ' v H' S' r' fr h
/-- arguments behind an object -/
theorem args_after {α β : Type} {K : Kit N α β} {Q : β → Hp → Prop} {ρ1 : Env} {H1 : Hp} {r : Rv} {v : V} {g : Env → Out (List Rv)} {k : List Rv → Env → Out α} {R : List V → Hp → Prop} (S : StOk N G σ H ρ) (S1 : StOk N ((G.at σ H ρ).add (ownA r v)) σ H1 ρ1) (k1 : RvOk N ((G.at σ H ρ).add (ownA r v)).Mc σ H1 ρ1 r v) (fr1 : Fresh (G.at σ H ρ) (ownA r v))
    (h : OutOk K W G σ Q ((g ρ1).bind k))
    (next : ∀ rs ρ2 vs H2, StOk N (G.add (ownAs (r :: rs) (v :: vs))) σ H2 ρ2 → RvsOk N (G.add (ownAs (r :: rs) (v :: vs))).Mc σ H2 ρ2 (r :: rs) (v :: vs) → Fresh G (ownAs (r :: rs) (v :: vs)) → OutOk K W G σ Q (k rs ρ2) → R vs H2) : tA N W g σ H1 R := by
  refine ⟨((G.at σ H ρ).add (ownA r v)).at σ H1 ρ1, ρ1, S1.at, ?_⟩
  have Sr : StOk N (G.add (ownA r v)) σ H1 ρ1 := S.comp S1
  cases e2 : g ρ1 with
  | stuck => simp only [Out.bind, e2] at h; exact h
  | exc x ρ' =>
    simp only [Out.bind, e2] at h
    intro cls dd H' S' X'
    exact h cls dd H' (S.comp (S1.comp0 S')).drop (X'.mon (frz_weak fun _ z => .inl z))
  | ok rs ρ2 =>
    simp only [Out.bind, e2] at h
    intro vs H2 S2 k2 fr2
    have S2' := S1.comp S2
    have S3 : StOk N (G.add fun a => ownA r v a ∨ ownAs rs vs a) σ H2 ρ2 := S.comp (S2'.weak fun a z => z.elim (fun z => .inl (.inl z)) fun z => z.elim (fun z => .inl (.inr z)) .inr)
    refine next rs ρ2 vs H2 S3 ⟨v, vs, rfl, ?_, ?_, fun a h1 h2 => (fr2 a h2).2.1 (.inr h1)⟩ (fun a z => ?_) h
    · exact (RvOk.later S1 S2 fr2 k1).weak (fun a z => z.elim (fun z => .inl (.inl z)) fun z => z.elim (fun z => .inl (.inr z)) .inr) fun a z => .inr (.inl z)
    · exact RvsOk.weak (fun a z => z.elim (fun z => .inl (.inl z)) fun z => z.elim (fun z => .inl (.inr z)) .inr) (fun a z => .inr (.inr z)) k2
    · rcases z with z | z
      · exact Fresh.back0 S fr1 a z
      · obtain ⟨q1, q2, q3⟩ := Fresh.back0 S1 fr2 a z
        refine ⟨?_, fun y => q2 (.inl y), q3⟩
        rcases q1 with q1 | q1
        · exact .inl (S.dom a q1)
        · exact (S.mu a q1).symm
/-! ### fields by name -/
structure NmOk (N : Nm) : Prop where
  inj : ∀ i j, N.fld i = N.fld j → i = j
theorem RepF.none (hN : NmOk N) {f : Nat} : ∀ {fs : List (Nat × D)} {vs : List (Str × V)}, RepF N F H fs vs → fs.lookup f = none → vs.lookup (N.fld f) = none
  | [], _, h, _ => by cases h; rfl
  | (g, d) :: fs, _, ⟨v, r, e, _, t⟩, q => by
    subst e
    simp only [List.lookup] at q ⊢
    split at q
    · cases q
    · rename_i hb
      have hne : f ≠ g := by simpa using hb
      have : (N.fld f == N.fld g) = false := by
        rw [beq_eq_false_iff_ne]
        exact fun z => hne (hN.inj _ _ z)
      rw [this]
      exact RepF.none hN t q
theorem RepF.some (hN : NmOk N) {f : Nat} {d : D} : ∀ {fs : List (Nat × D)} {vs : List (Str × V)}, RepF N F H fs vs → fs.lookup f = some d → ∃ v, vs.lookup (N.fld f) = some v ∧ Rep N F H d v
  | [], _, h, q => by cases q
  | (g, d') :: fs, _, ⟨v, r, e, h, t⟩, q => by
    subst e
    simp only [List.lookup] at q ⊢
    split at q
    · rename_i hb
      cases q
      have e : f = g := by simpa using hb
      subst e
      exact ⟨v, by simp, h⟩
    · rename_i hb
      have hne : f ≠ g := by simpa using hb
      have : (N.fld f == N.fld g) = false := by
        rw [beq_eq_false_iff_ne]
        exact fun z => hne (hN.inj _ _ z)
      rw [this]
      exact RepF.some hN t q
theorem RepF.put (hN : NmOk N) {f : Nat} {d : D} {v : V} (hv : Rep N F H d v) : ∀ {fs : List (Nat × D)} {vs : List (Str × V)}, RepF N F H fs vs → RepF N F H (putD f d fs) (putF (N.fld f) v vs)
  | [], _, h => by cases h; exact ⟨v, [], rfl, hv, rfl⟩
  | (g, d') :: fs, _, ⟨w, r, e, h, t⟩ => by
    subst e
    unfold putD putF
    by_cases e : g = f
    · subst e
      rw [if_pos rfl, if_pos rfl]
      exact ⟨v, r, rfl, hv, t⟩
    · rw [if_neg e, if_neg fun z => e (hN.inj _ _ z)]
      exact ⟨w, _, rfl, h, RepF.put hN hv t⟩
theorem RepF.length : ∀ {fs : List (Nat × D)} {vs : List (Str × V)}, RepF N F H fs vs → vs.length = fs.length
  | [], _, h => by cases h; rfl
  | (g, d') :: fs, _, ⟨w, r, e, h, t⟩ => by subst e; simp [RepF.length t]
theorem de_meth {T : Tab} {cl : Cl} {k : Nat} {fad : Nat → Addr} {m : Nat} {apos pos : Pos} {o : Expr} {es : List Expr} {fo : Env → Out Rv} {fa : Env → Out (List Rv)} (tk : Takes X W) (hcl : ClOk cl) (hN : NmOk N)
    (hM : ∀ C f Ca, T.meth C m = some f → N.cls C = some Ca → Cls X.K Ca ∧ Meth X.K Ca (N.fld m) (fad f) ∧ ∃ fd, T.fn f = some fd ∧ FnR X.prog X.w X.K X.mg X.base (L2.CX X.prog X.w) k (fad f) (spC N fd (cl f)))
    (hr : Room k X.A) (ho : PE X o (tE N W fo)) (hp : plainO o = true) (hst : es.all notStar = true) (hlen : es.length < 30) (hline : (apos.endLine == pos.line) = true) (hn : es = [] → fa = fun ρ => .ok [] ρ) (ha : PA X es (tA N W fa)) :
    PE X (.Call (.Attribute o (N.fld m) apos) es [] pos) (tE N W fun ρ => (fo ρ).bind fun r ρ => mth1 T m r ρ fun f => (fa ρ).bind fun rs ρ => callD T cl f (r :: rs) ρ) := by
  refine ⟨fun pins s σ H Q I ⟨G, ρ, S, hq⟩ => ?_⟩
  refine methcall_of ho I (tK_then2 (L := kE N) S hq fun r ρ1 v H1 S1 k1 fr1 h1 => ?_) (meth_tree hp hst hlen hline)
  unfold mth1 at h1
  split at h1
  · rename_i C fs er
    split at h1
    · rename_i f el em
      obtain ⟨a, Ca, dx, vs, ev, ec, ha1, rf⟩ := (RvOk.rd S1 k1 er).ins
      obtain ⟨c1, c2, fd, eT, Ff⟩ := hM C f Ca em ec
      subst ev
      refine ⟨a, Ca, dx, vs, fad f, rfl, ha1, c1, c2, RepF.none hN rf el, fun s1 I1 => ?_⟩
      refine cw_any (fa := fun _ => ()) (R := fun vs H1 => spC N fd (cl f) (.ref a :: vs) H1 Q (fun cls dd H' => W cls dd σ H')) I1 c2.kp hst hn ha (args_after S S1 k1 fr1 h1 fun rs ρ2 vs H2 S2 k2 fr2 h2 => callD_read hcl eT S2 k2 fr2 h2) fun us vs s2 H2 I2 r2 q => ?_
      exact run_fnRS tk Ff hr I2 (us := .ref a :: us) (vs := .ref a :: vs) (.cons rfl r2) q
    · exact h1.elim
  · exact h1.elim
/-! ### new instances -/
theorem RvsOk.grow {Mc Mc' : Addr → Prop} (m : Mon (Frz Mc σ ρ) H (Frz Mc' σ ρ) H') (sm : Same H H') : ∀ {rs : List Rv} {vs : List V}, RvsOk N Mc σ H ρ rs vs → (∀ a, ownAs rs vs a → Mc' a) → RvsOk N Mc' σ H' ρ rs vs
  | [], _, h, _ => h
  | r :: rs, _, ⟨v, w, e, a, b, c⟩, h => by
    subst e
    refine ⟨v, w, rfl, ?_, RvsOk.grow m sm b fun x z => h x (.inr z), c⟩
    cases r with
    | val d => exact Rep.mon m _ _ a
    | bor i => exact a
    | own d => obtain ⟨p, e, mp, o⟩ := a; exact ⟨p, e, h p (.inl e), o.mon m fun o e => sm _ _ e⟩
theorem give_own {d d0 : D} {rs : List Rv} {ms : List Mode} {ρ1 : Env} {as : List Slot} {bs : List Bk} (e : give ρ ms (.own d :: rs) = some (.io d0 :: as, ρ1, bs)) : ∃ bs', bs = none :: bs' := by
  cases ms with
  | nil => cases e
  | cons m ms =>
    cases m <;> simp only [give, give1, toVal, Option.map_some, Option.bind_some] at e <;> (cases e2 : give ρ ms rs with
      | none => rw [e2] at e; cases e
      | some q => rw [e2] at e; first | (cases e; done) | (cases e; exact ⟨_, rfl⟩))
theorem newG_read {cl : List Slot → COut} {ms : List Mode} {C : Nat} {Ca x dx : Addr} (hcl : ∀ as, match cl as with
  | .ret _ outs => OutsOk as outs
  | .exc _ outs => OutsOk as outs
  | .stuck => True) {rs : List Rv} {vs : List V} {Q : VK} (hC : N.cls C = some Ca) (S : StOk N (G.add (ownAs rs vs)) σ H ρ) (k : RvsOk N (G.add (ownAs rs vs)).Mc σ H ρ rs vs) (fr : Fresh G (ownAs rs vs))
    (h : OutOk (kE N) W G σ Q (newG cl ms (.own (.ins C []) :: rs) ρ)) (hx : H x = none) (hdx : H dx = none) (hne : dx ≠ x) :
    spD N ms.length cl (.ref x :: vs) (upd (upd H dx (.own x)) x (.ins Ca dx [])) (fun v H2 => v = .non ∧ Q (.ref x) H2) (fun cls dd H' => W cls dd σ H') := by
  have sm : Same H (upd (upd H dx (.own x)) x (.ins Ca dx [])) := fun b o e => by
    rw [upd_ne (ne_of_none e hx), upd_ne (ne_of_none e hdx)]; exact e
  have S1 : StOk N ((G.add (ownAs rs vs)).add fun a => a = x) σ (upd (upd H dx (.own x)) x (.ins Ca dx [])) ρ := S.owned hx sm (by rw [upd_same]; simp)
  have ee : ∀ a, ownAs (.own (.ins C []) :: rs) (.ref x :: vs) a ↔ (a = x ∨ ownAs rs vs a) := fun a => ⟨fun z => z.imp (fun z => by cases z; rfl) id, fun z => z.imp (fun z => by rw [z]; rfl) id⟩
  have nx : ¬ ownAs rs vs x := fun z => S.mc x (.inr z) hx
  have S2 : StOk N (G.add (ownAs (.own (.ins C []) :: rs) (.ref x :: vs))) σ (upd (upd H dx (.own x)) x (.ins Ca dx [])) ρ := S1.weak fun a z => z.elim (fun z => .inl (.inl z)) fun z => ((ee a).mp z).elim .inr fun z => .inl (.inr z)
  have mf : Mon (Frz (G.add (ownAs rs vs)).Mc σ ρ) H (Frz (G.add (ownAs (.own (.ins C []) :: rs) (.ref x :: vs))).Mc σ ρ) (upd (upd H dx (.own x)) x (.ins Ca dx [])) := fun a o f e => by
    refine ⟨⟨fun z => ?_, f.2⟩, sm a o e⟩
    rcases z with z | z
    · exact f.1 (.inl z)
    · rcases (ee a).mp z with z | z
      · subst z; rw [hx] at e; cases e
      · exact f.1 (.inr z)
  have k2 : RvsOk N (G.add (ownAs (.own (.ins C []) :: rs) (.ref x :: vs))).Mc σ (upd (upd H dx (.own x)) x (.ins Ca dx [])) ρ (.own (.ins C []) :: rs) (.ref x :: vs) := by
    refine ⟨.ref x, vs, rfl, ⟨x, rfl, .inr (.inl rfl), Ca, dx, [], hC, upd_same, rfl⟩, ?_, fun a z => by cases z; exact nx⟩
    exact k.grow mf sm fun a z => .inr (.inr z)
  have fr2 : Fresh G (ownAs (.own (.ins C []) :: rs) (.ref x :: vs)) := fun a z => by
    rcases (ee a).mp z with z | z
    · subst z
      exact ⟨.inl (S.dom a hx), fun w => S.mc a (.inl w) hx, fun w => (S.lk a w).1 hx⟩
    · exact fr a z
  unfold newG at h
  split at h
  · rename_i d0 as ρ1 bs eg
    obtain ⟨bs', eb⟩ := give_own eg
    subst eb
    obtain ⟨ps, g⟩ := give_ok S2 k2 fr2 eg
    refine ⟨calleeGh G σ (upd (upd H dx (.own x)) x (.ins Ca dx [])) ρ1 (.ref x :: vs) (.io d0 :: as) ps, .io d0 :: as, g.callee, rfl, by rw [k2.length, give_len eg], ?_⟩
    have hc := hcl (.io d0 :: as)
    have hp : ∃ ps', ps = some x :: ps' ∧ some x ∉ ps' := by
      obtain ⟨v, w, p, q, e1, e2, ⟨a, ea, ev, _⟩, _, n⟩ := g.arg
      cases e1; cases ev
      exact ⟨q, by rw [e2, ea], n x ea⟩
    obtain ⟨ps', ep, np⟩ := hp
    subst ep
    split at h
    · rename_i d outs er
      rw [er] at hc ⊢
      split at h
      · rename_i ρ2 et
        intro v H' S' k' fr'
        refine ⟨k', ?_⟩
        have nl : ¬ lentA (none :: bs') (some x :: ps') x := fun z => by
          rcases z with z | z
          · exact z.1 rfl
          · exact np (lentA_inP z)
        have mx : muts ((V.ref x :: vs).map some) (.io d :: outs) x := ⟨0, rfl, d, .inr rfl⟩
        obtain ⟨q1, q2, q3⟩ := g.back (K := fun a => a = x) (fun a z => by subst z; exact ⟨List.mem_cons_self, mx, nl⟩) S' fr' (fun b z => z.elim) hc et
        have q1' : StOk N (G.add (ownA (.own d) (.ref x))) σ H' ρ2 := q1.weak fun a z => z.elim (fun z => .inl (.inl z)) fun z => .inr (by cases z; rfl)
        refine h (.ref x) H' q1' ⟨x, rfl, .inr rfl, ?_⟩ ?_
        · obtain ⟨w, ew, a, ea, o⟩ := S'.slot 0 _ rfl
          cases ew; cases ea
          refine o.mon (q2.trans (frz_weak fun a z => z.elim (fun z => .inl (.inl z)) fun z => .inr (by cases z; rfl))) fun _ z => z
        · exact fun a z => by cases z; exact fr2 x (.inl rfl)
      · exact h.elim
    · rename_i xx outs er
      rw [er] at hc ⊢
      split at h
      · rename_i ρ2 et
        intro cls dd H' S' X'
        have S'' : StOk N ((calleeGh G σ (upd (upd H dx (.own x)) x (.ins Ca dx [])) ρ1 (.ref x :: vs) (.io d0 :: as) (some x :: ps')).add noA) ((V.ref x :: vs).map some) H' outs := by rw [Gh.add_no]; exact S'
        obtain ⟨q1, q2, q3⟩ := g.back (K := noA) (fun a z => z.elim) S'' Fresh.no (fun b z => z.elim) hc et
        rw [Gh.add_no, Gh.add_no] at q1
        rw [Gh.add_no, Gh.add_no, Gh.add_no] at q2
        exact h cls dd H' q1 (X'.mon q2)
      · exact h.elim
    · exact h.elim
  · exact h.elim
theorem newD_read {T : Tab} {cl : Cl} {C f : Nat} {Ca x dx : Addr} {fd : Fd} (hcl : ClOk cl) (hI : T.init C = some f) (hT : T.fn f = some fd) {rs : List Rv} {vs : List V} {Q : VK} (hC : N.cls C = some Ca) (S : StOk N (G.add (ownAs rs vs)) σ H ρ) (k : RvsOk N (G.add (ownAs rs vs)).Mc σ H ρ rs vs) (fr : Fresh G (ownAs rs vs))
    (h : OutOk (kE N) W G σ Q (newD T cl C rs ρ)) (hx : H x = none) (hdx : H dx = none) (hne : dx ≠ x) :
    spC N fd (cl f) (.ref x :: vs) (upd (upd H dx (.own x)) x (.ins Ca dx [])) (fun v H2 => v = .non ∧ Q (.ref x) H2) (fun cls dd H' => W cls dd σ H') := by
  unfold newD at h
  rw [hI] at h
  dsimp only at h
  rw [hT] at h
  dsimp only at h
  split at h
  · rename_i hf0
    rw [Bool.and_eq_true, decide_eq_true_eq] at hf0
    obtain ⟨hf, hko⟩ := hf0
    have hl := k.length
    have hd : (fillD fd.dfl fd.modes.length (rs.length + 1)).all flatD = true := all_drop hf
    have e := ownAs_fill (rs := rs) (vs := vs) (ds := fillD fd.dfl fd.modes.length (rs.length + 1)) hl
    unfold spC
    rw [show (V.ref x :: vs).length = rs.length + 1 from by simp [hl]]
    refine ⟨hko, ?_⟩
    refine newG_read (hcl f) (rs := rs ++ (fillD fd.dfl fd.modes.length (rs.length + 1)).map .val) (vs := vs ++ (fillD fd.dfl fd.modes.length (rs.length + 1)).map toV) hC ?_ ?_ ?_ h hx hdx hne
    · rw [e]; exact S
    · rw [e]; exact k.fill hd
    · rw [e]; exact fr
  · exact h.elim
theorem de_new {T : Tab} {cl : Cl} {k : Nat} {Ca fad : Addr} {fd : Fd} {C f : Nat} {x : Str} {p pos : Pos} {es : List Expr} {fa : Env → Out (List Rv)} (tk : Takes X W) (hcl : ClOk cl) (hI : T.init C = some f) (hT : T.fn f = some fd) (hC : N.cls C = some Ca)
    (M : Mk X.K Ca fad) (F : FnR X.prog X.w X.K X.mg X.base (L2.CX X.prog X.w) k fad (spC N fd (cl f))) (hr : Room (k + 1) X.A) (hg : Gl X x) (hm : X.mg x = some (.ref Ca))
    (hdb : (x == ("__debug__" : Str)) = false) (hst : es.all notStar = true) (hn : es = [] → fa = fun ρ => .ok [] ρ) (ha : PA X es (tA N W fa)) :
    PE X (.Call (.Name x p) es [] pos) (tE N W fun ρ => (fa ρ).bind fun rs ρ => newD T cl C rs ρ) := by
  refine ⟨fun pins s σ H Q I ⟨G, ρ, S, hq⟩ => ?_⟩
  refine wpAny_Call_Name_kw (ld_glob I hg hm ?_ hdb)
  refine cw_any (fa := fun _ => ()) (R := fun vs H1 => ∀ x dx, H1 x = none → H1 dx = none → dx ≠ x → spC N fd (cl f) (.ref x :: vs) (upd (upd H1 dx (.own x)) x (.ins Ca dx [])) (fun v H2 => v = .non ∧ Q (.ref x) H2) (fun cls dd H' => W cls dd σ H')) I M.kp hst hn ha
    (args_then (K := kE N) S hq fun rs ρ1 vs H1 G1 S1 k1 fr1 h1 x dx hx hdx hne => newD_read hcl hI hT hC S1 k1 fr1 h1 hx hdx hne) fun us vs s1 H1 I1 r q => ?_
  have hq := q (s1.heap.objs.size + 1) s1.heap.objs.size (I1.hok.fresh (Nat.le_succ _)) (I1.hok.fresh (Nat.le_refl _)) (Nat.ne_of_lt (Nat.lt_succ_self _))
  have I2 := Inv.made (C := Ca) I1
  have r2 : Vals (V.ref (s1.heap.objs.size + 1) :: vs) (Value.ref (s1.heap.objs.size + 1) :: us) := .cons rfl r
  refine wpAny_call (make_map (f := fad) I1.kIn M.makes M.init (beq_iff_eq.mp M.fn) (codeAny_mono (F _ X.stack _ _ (Value.ref (s1.heap.objs.size + 1) :: us) _ _ _ (hr.make Ca us []) (I2.env0.make Ca us []) r2 hq) fun r s' hq' => ?_))
  cases r with
  | error e => exact passAt tk σ pins _ _ e s' I2 hq'
  | ok fl =>
    cases fl with
    | ret u =>
      obtain ⟨v, H', I3, rv, ev, q3⟩ := I2.after hq'
      subst ev
      exact ⟨rv, ⟨V.ref (s1.heap.objs.size + 1), H', I3, rfl, q3⟩⟩
    | next => exact False.elim hq'
    | brk => exact False.elim hq'
    | cont => exact False.elim hq'
end
end Wf

/-! Wf: attributes, isinstance, built-ins, slices, chains, list methods -/
namespace Wf
open PySem PySem.Spec PyProof.Rows L2
/-- a list of ints that stands in the written part -/
def KL (K : PySem.W.Frag) (a : Addr) (ns : List Int) : Prop := ∃ (o : Obj) (its : Array Value) (n : Nat), K.lookup a = some o ∧ o.cls = .type "list" ∧ o.dict = none ∧ o.data = .seq its n ∧ its.size ≤ sizeLine ∧ Vals (ns.map V.int) its.toList
def tyVal (N : Nm) : Ty → Value
  | .non => .type "NoneType" | .bl => .type "bool" | .int => .type "int" | .str => .type "str" | .lst => .type "list" | .tup => .type "tuple" | .dic => .type "dict"
  | .cls C => .ref ((N.cls C).getD 0) | .verr => .type "ValueError"
section
variable {X : Cx} {N : Nm} {W : WX} {G : Gh} {σ : Sg} {H H' : Hp} {ρ ρ' : Env} {F : Addr → Prop} {Mc : Addr → Prop}
/-! ### attributes -/
theorem de_att {T : Tab} {f : Nat} {e : Expr} {pos : Pos} {fe : Env → Out Rv} (hN : NmOk N) (hA : ∀ C Ca, N.cls C = some Ca → (T.flds C).contains f = true → Cls X.K Ca ∧ NoAttr X.K Ca (N.fld f))
    (hC : ∀ C Ca d, N.cls C = some Ca → T.ccon C f = some d → ∃ v u, Cls X.K Ca ∧ Con X.K Ca (N.fld f) v u ∧ ∀ F H, Rep N F H d v) (hp : plainO e = true) (he : PE X e (tE N W fe)) :
    PE X (.Attribute e (N.fld f) pos) (tE N W fun ρ => (fe ρ).bind fun r ρ => op1 (attD T f) r ρ) := by
  refine ⟨fun pins s σ H Q I h => ?_⟩
  refine attr_of (attributeBase_plain hp) (thn (he.run pins s σ H _ I (un_read h)) fun u s1 ⟨x, H1, I1, rx, F, dx, o, fF, hx, eo, q⟩ => ?_)
  unfold attD at eo
  split at eo
  · rename_i C fs
    obtain ⟨a, Ca, ddx, vs, rfl, ec, ha, rf⟩ := hx.ins
    obtain rfl : u = Value.ref a := rx
    split at eo
    · rename_i hc
      obtain ⟨c1, c2⟩ := hA C Ca ec hc
      cases el : fs.lookup f with
      | none => rw [el] at eo; cases eo
      | some d =>
        rw [el] at eo; cases eo
        obtain ⟨v, lv, rv⟩ := RepF.some hN rf el
        exact getattr_ok I1 ha c1 c2 lv fun u' s2 I2 ru => ⟨v, H1, I2, ru, q v H1 (Same.refl H1) rv⟩
    · split at eo
      · rename_i el
        cases ed : T.ccon C f with
        | none => rw [ed] at eo; cases eo
        | some d =>
          rw [ed] at eo; cases eo
          obtain ⟨v, u0, c1, c2, rv⟩ := hC C Ca d ec ed
          exact getcon_ok I1 ha c1 c2 (RepF.none hN rf el) fun s2 I2 => ⟨v, H1, I2, c2.rel, q v H1 (Same.refl H1) (rv _ _)⟩
      · cases eo
  · cases eo
/-- C.f -/
theorem de_ccon {T : Tab} {C f : Nat} {x : Str} {p pos : Pos} {Ca : Addr} (hg : Gl X x) (hm : X.mg x = some (.ref Ca)) (hdb : (x == ("__debug__" : Str)) = false)
    (hC : ∀ d, T.ccon C f = some d → ∃ mc v u, ClX.CRead X.K Ca mc ∧ ClX.CVal X.K Ca mc (N.fld f) v u ∧ ∀ F H, Rep N F H d v) :
    PE X (.Attribute (.Name x p) (N.fld f) pos) (tE N W fun ρ => match T.ccon C f with | some d => .ok (.val d) ρ | none => .stuck) := by
  refine ⟨fun pins s σ H Q I ⟨G, ρ, S, h⟩ => ?_⟩
  dsimp only at h
  split at h
  · rename_i d ed
    obtain ⟨mc, v, u, c1, c2, rv⟩ := hC d ed
    exact (ClX.pe_cval (pe_glob (v := .ref Ca) hg hm rfl hdb) (attributeBase_plain rfl)).run pins s σ H Q I ⟨Ca, mc, v, u, rfl, c1, c2, h.val S (rv _ _)⟩
  · exact h.elim
/-! ### isinstance -/
theorem ty_rd {T : Tab} {d : D} {v : V} {k : Ty} (hI : ∀ C Ca, N.cls C = some Ca → ∀ fs, d = .ins C fs → Cls X.K Ca ∧ PySem.W.findIn X.K (.ref Ca) "__class__" = some (some (.builtin "object.__class__")) ∧
      PySem.W.specialIn X.K (.builtin "object.__class__") "__get__" = some (some (.builtin "getset_descriptor.__get__")) ∧ PySem.W.takesIn X.K (.builtin "object.__class__") = some true ∧ PySem.W.mroIn X.K Ca (.type "object") = some true)
    (h : Rd1 N F H d v) (e : kindD d = some k) : TyX X.K H v (tyVal N k) := by
  cases d with
  | non => cases e; cases h.non; exact .base .non
  | bl b => cases e; cases h.bl; exact .base (.bl b)
  | int i => cases e; cases h.int; exact .base (.int i)
  | str x => cases e; cases h.str; exact .base (.str x)
  | tup xs => cases e; obtain ⟨a, vs, rfl, ha, _⟩ := h.tup; exact .base (.tup ha)
  | lst xs => cases e; obtain ⟨a, vs, rfl, ha, _⟩ := h.lst; exact .base (.lst ha)
  | dic xs => cases e; obtain ⟨a, vs, rfl, ha, _⟩ := h.dic; exact .base (.dK ha)
  | dit xs => cases e; obtain ⟨a, vs, rfl, ha, _⟩ := h.dit; exact .base (.dT ha)
  | ins C fs =>
    cases e
    obtain ⟨a, Ca, dx, vs, rfl, ec, ha, _⟩ := h.ins
    obtain ⟨c1, c2, c3, c4, c5⟩ := hI C Ca ec fs rfl
    have : tyVal N (.cls C) = .ref Ca := by simp only [tyVal, ec, Option.getD_some]
    rw [this]
    exact .base (.ins ha c1 c2 c3 c4 c5)
  | exc C fs =>
    rcases h with h | ⟨a, _, h⟩
    · exact h.elim
    · exact h.elim
  | scr ns => cases e
theorem de_isi {T : Tab} {t : Ty} {a c : Expr} {p pos : Pos} {cv : V} {fa : Env → Out Rv} (hg : Gl X "isinstance") (hm : X.mg "isinstance" = none)
    (hI : ∀ C Ca, N.cls C = some Ca → T.isi (.cls C) t ≠ none → Cls X.K Ca ∧ PySem.W.findIn X.K (.ref Ca) "__class__" = some (some (.builtin "object.__class__")) ∧
      PySem.W.specialIn X.K (.builtin "object.__class__") "__get__" = some (some (.builtin "getset_descriptor.__get__")) ∧ PySem.W.takesIn X.K (.builtin "object.__class__") = some true ∧ PySem.W.mroIn X.K Ca (.type "object") = some true)
    (hk : ∀ k b, T.isi k t = some b → PySem.W.kitOne X.K (tyVal N k) (tyVal N t) = some b) (hc : ClsV cv (tyVal N t)) (hcl : PE X c (tC cv)) (na : notStar a = true) (nc : notStar c = true) (ha : PE X a (tE N W fa)) :
    PE X (.Call (.Name "isinstance" p) [a, c] [] pos) (tE N W fun ρ => (fa ρ).bind fun r ρ => op1 (isiD T t) r ρ) := by
  refine ⟨fun pins s σ H Q I h => ?_⟩
  have hpl : (backTo pos (starEach [c] X.env)).any (·.1) = false := star_any (by rw [List.all_cons, nc]; rfl)
  refine (pe_callB (e := a) (es := [c]) call_isi hg hm (by decide +kernel) (pa_cons ha (pa_cons hcl pa_nil (starEach_cons nc)) (starEach_cons na)) (by decide) (by decide) (starEach_cons na) hpl).run pins s σ H Q I ?_
  obtain ⟨G, ρ, S, h⟩ := h
  refine tK_then (L := kE N) S h fun r ρ1 v H1 S1 k1 fr1 h1 => ?_
  unfold op1 at h1
  split at h1
  · rename_i d ed
    obtain ⟨o, eo⟩ := mkRv_some h1
    unfold isiD at eo
    cases ek : kindD d with
    | none => rw [ek] at eo; cases eo
    | some k =>
      rw [ek] at eo
      simp only [Option.bind_some] at eo
      cases eb : T.isi k t with
      | none => rw [eb] at eo; cases eo
      | some b =>
        rw [eb] at eo; cases eo
        have rr : TyX X.K H1 v (tyVal N k) := by
          refine ty_rd (T := T) (fun C Ca ec fs e => ?_) (RvOk.rd S1 k1 ed) ek
          subst e
          cases ek
          exact hI C Ca ec (by rw [eb]; simp)
        refine ⟨v, cv, _, _, b, rfl, hc, rr, hk k b eb, ?_⟩
        have h2 : OutOk (kE N) W ((G.at σ H ρ).add ((kE N).own r v)) σ Q (.ok (.val (.bl b)) ρ1) := by
          unfold isiD at h1
          rw [ek] at h1
          simp only [Option.bind_some] at h1
          rw [eb] at h1
          exact h1
        exact h2.val S1 rfl
  · exact h1.elim
/-! ### built-ins -/
theorem de_bi {b : Bi} {x : Str} {e : Expr} {es : List Expr} {p pos : Pos} {fa : Env → Out (List Rv)} (hc : X.calm = true) (hg : Gl X x) (hn : x ≠ "__name__") (hdb : (x == ("__debug__" : Str)) = false)
    (hv : (X.mg x = none ∧ bootBuiltins x = some (biVal b)) ∨ (X.mg x = some (biVal b) ∧ ∃ id, biVal b = .builtin id)) (hst : (e :: es).all notStar = true) (ha : PA X (e :: es) (tA N W fa)) :
    PE X (.Call (.Name x p) (e :: es) [] pos) (tE N W fun ρ => (fa ρ).bind fun rs ρ => bi1 b rs ρ) := by
  refine ⟨fun pins s σ H Q I h => ?_⟩
  rw [List.all_cons, Bool.and_eq_true] at hst
  have h := bi_read h
  have cb := call_bi (X := X) (N := N) hc b
  rcases hv with ⟨hm, hv⟩ | ⟨hm, id, hi⟩
  · cases b <;> first
      | exact (pe_callB (id := _) cb hg hm hv ha hn hdb (starEach_cons hst.1) (star_any hst.2)).run pins s σ H Q I h
      | exact (pe_callTy (T := _) cb hg hm hv ha hn hdb (starEach_cons hst.1) (star_any hst.2)).run pins s σ H Q I h
  · rw [hi] at cb hm
    exact (pe_callBfun cb hg hm ha hdb (starEach_cons hst.1) (star_any hst.2)).run pins s σ H Q I h
/-! ### slices -/
def kO (N : Nm) : Kit N (Option Int) (Option Int) where
  own := fun _ _ => noA
  ok := fun _ _ _ _ a b => a = b
  weak := fun _ _ _ _ _ _ _ _ _ h => h
theorem do_none : PO X none (tK (kO N) W fun ρ => .ok none ρ) := by
  refine ⟨fun pins s σ H Q I ⟨G, ρ, S, h⟩ => po_none.run pins s σ H Q I (h none H ?_ rfl Fresh.no)⟩
  show StOk N (G.add noA) σ H ρ
  rw [Gh.add_no]; exact S
theorem do_some {e : Expr} {fe : Env → Out Rv} (he : PE X e (tE N W fe)) : PO X (some e) (tK (kO N) W fun ρ => (fe ρ).bind intP) := by
  refine ⟨fun pins s σ H Q I ⟨G, ρ, S, h⟩ => (po_some he).run pins s σ H Q I (tK_then (L := kE N) S h fun r ρ1 v H1 S1 k1 fr1 h1 => ?_)⟩
  unfold intP at h1
  split at h1
  · rename_i i ei
    refine ⟨i, (RvOk.rd S1 k1 ei).int, h1 (some i) H1 ?_ rfl Fresh.no⟩
    show StOk N (Gh.add _ noA) σ H1 ρ1
    rw [Gh.add_no]; exact S1
  · exact h1.elim
def rSl (N : Nm) : V → Option Int → Option Int → Hp → VK → Prop := fun x lo hi H Q => ∃ F dx o, FreshF F H ∧ Rd1 N F H dx x ∧ slcD lo hi dx = some o ∧ Res N F H o Q
theorem cutV_reps {lo hi : Option Int} {ds : List D} {vs : List V} (r : Reps N F H ds vs) : Reps N F H (cutD ds lo hi) (cutV vs lo hi) := by
  unfold cutD cutV
  rw [r.length]
  exact (r.drop _).take _
theorem cutV_ints {lo hi : Option Int} {ns : List Int} : cutV (ns.map V.int) lo hi = (cutI ns lo hi).map V.int := by
  unfold cutV cutI
  rw [List.length_map, List.map_take, List.map_drop]
theorem sl_D (hkl : ∀ a ns, N.kl a ns → KL X.K a ns) : L2.SlR X (rSl N) := by
  intro pins s σ H x v vl vu lo hi sl Q I rx hs pl pu ⟨F, dx, o, fF, hx, e, q⟩
  unfold slcD at e
  split at e
  · cases e
    obtain ⟨a, vs, rfl, ha, r⟩ := hx.lst
    exact sl_list pins s σ H _ v vl vu lo hi sl Q I rx hs pl pu ⟨a, vs, rfl, .of ha, fun p hp => q.lst rfl (cutV_reps r) hp⟩
  · cases e
    rename_i ns
    rcases hx with ⟨a, rfl, ha⟩ | ⟨a, _, h⟩
    · have hq : SqL X.K H a (ns.map V.int) := by
        rcases ha with ⟨o, _, ha⟩ | ha
        · exact .inl (.inr ⟨o, ha⟩)
        · exact .inr (hkl a ns ha)
      refine sl_list pins s σ H _ v vl vu lo hi sl Q I rx hs pl pu ⟨a, ns.map V.int, rfl, hq, fun p hp => ?_⟩
      refine q.lst rfl ?_ hp
      rw [cutV_ints]
      exact Reps.ints.mpr rfl
    · exact h.elim
  · cases e
    rename_i xs
    obtain ⟨a, vs, rfl, fa, ha, r⟩ := hx.tupF
    refine sl_tupA pins s σ H _ v vl vu lo hi sl Q I rx hs pl pu ⟨a, vs, rfl, .of ha, fun hw => ?_, fun _ p hp => q.tup fF rfl (cutV_reps r) hp⟩
    refine q.flat rfl _ ⟨a, vs, rfl, fa, ha, ?_⟩
    have e1 : cutD xs lo hi = xs := by
      unfold cutD
      rw [r.length, hw.1, hw.2, List.drop_zero, ← r.length, Nat.sub_zero, List.take_length]
    rw [e1]; exact r
  · cases e
theorem de_slc (hkl : ∀ a ns, N.kl a ns → KL X.K a ns) {a : Expr} {lo hi : Option Expr} {p2 pos : Pos} {fa : Env → Out Rv} {fl fh : Env → Out (Option Int)} (ha : PE X a (tE N W fa)) (hl : PO X lo (tK (kO N) W fl)) (hh : PO X hi (tK (kO N) W fh)) :
    PE X (.Subscript a (.Slice lo hi none p2) pos) (tE N W fun ρ => (fa ρ).bind fun r ρ => (fl ρ).bind fun l ρ => (fh ρ).bind fun h ρ => op1 (slcD l h) r ρ) := by
  refine ⟨fun pins s σ H Q I ⟨G, ρ, S, h⟩ => (pe_slice (sl_D hkl) ha hl hh).run pins s σ H Q I (tK_then (L := kE N) S h fun r ρ1 v H1 S1 k1 fr1 h1 => tK_then (L := kO N) S1 h1 fun l ρ2 l' H2 S2 k2 fr2 h2 => tK_then (L := kO N) S2 h2 fun u ρ3 u' H3 S3 k3 fr3 h3 => ?_)⟩
  cases (show l = l' from k2)
  cases (show u = u' from k3)
  have k1 := RvOk.later S2 S3 fr3 (RvOk.later S1 S2 fr2 k1)
  unfold op1 at h3
  split at h3
  · rename_i dx ex
    obtain ⟨o, eo⟩ := mkRv_some h3
    rw [eo] at h3
    exact ⟨_, dx, o, S3.freshF, k1.rd S3 ex, eo, OutOk.res S3 h3⟩
  · exact h3.elim
/-! ### chains -/
theorem RvOk.same {r : Rv} {v : V} (sm : Same H H') (k : RvOk N Mc σ H ρ r v) : RvOk N Mc σ H' ρ r v := by
  have m : Mon (Frz Mc σ ρ) H (Frz Mc σ ρ) H' := fun a o f e => ⟨f, sm a o e⟩
  cases r with
  | val d => exact Rep.mon m _ _ k
  | bor i => exact k
  | own d => obtain ⟨p, e, mp, o⟩ := k; exact ⟨p, e, mp, o.mon m fun _ z => sm _ _ z⟩
theorem de_chain (hu : X.A.units + 64 < cLine) {a b c : Expr} {op op' : CmpOp} {pos : Pos} {fa fb fc : Env → Out Rv} (hm : lastMarks [op, op'] [b, c] = false) (ha : PE X a (tE N W fa)) (hb : PE X b (tE N W fb)) (hc : PE X c (tE N W fc)) :
    PE X (.Compare a [op, op'] [b, c] pos) (tE N W fun ρ => (fa ρ).bind fun r ρ => (fb ρ).bind fun s ρ => (match rdc ρ r, rdc ρ s with
    | some x, some y => (match cmpD op x y with
      | some true => (fc ρ).bind fun t ρ => op2 (cmp2D op') s t ρ
      | some false => .ok (.val (.bl false)) ρ
      | none => .stuck)
    | _, _ => .stuck)) := by
  refine ⟨fun pins s σ H Q I ⟨G, ρ, S, h⟩ => (pe_chain (op_cmpD (N := N) hu op) (op_cmpD (N := N) hu op') ha hb hc hm).run pins s σ H Q I (tK_then (L := kE N) S h fun r ρ1 x H1 S1 k1 fr1 h1 => tK_then (L := kE N) S1 h1 fun s ρ2 y H2 S2 k2 fr2 h2 => ?_)⟩
  have k1 := RvOk.later S1 S2 fr2 k1
  split at h2
  · rename_i dx dy ex ey
    split at h2
    · rename_i ec
      refine ⟨_, dx, dy, (false, .bl true), S2.freshF, k1.rd S2 ex, RvOk.rd S2 k2 ey, by unfold cmp2D; rw [ec]; rfl, fun v H3 sm r => ?_⟩
      cases r
      have S3 := S2.grow sm
      refine ⟨true, rfl, iteT (tK_then (L := kE N) S3 h2 fun t ρ4 w H4 S4 k4 fr4 h4 => ?_)⟩
      have k5 := RvOk.later S3 S4 fr4 (RvOk.same sm k2)
      unfold op2 at h4
      split at h4
      · rename_i dy' dw ey' ew
        obtain ⟨o, eo⟩ := mkRv_some h4
        rw [eo] at h4
        exact ⟨_, dy', dw, o, S4.freshF, RvOk.rd S4 k5 ey', RvOk.rd S4 k4 ew, eo, OutOk.res S4 h4⟩
      · exact h4.elim
    · rename_i ec
      refine ⟨_, dx, dy, (false, .bl false), S2.freshF, k1.rd S2 ex, RvOk.rd S2 k2 ey, by unfold cmp2D; rw [ec]; rfl, fun v H3 sm r => ?_⟩
      cases r
      exact ⟨false, rfl, iteF (h2.val (S2.grow sm) rfl)⟩
    · exact h2.elim
  · exact h2.elim
theorem dt_chain (hu : X.A.units + 64 < cLine) {a b c : Expr} {op op' : CmpOp} {pos : Pos} {fa fb fc : Env → Out Rv} (hm : lastMarks [op, op'] [b, c] = false) (ha : PE X a (tE N W fa)) (hb : PE X b (tE N W fb)) (hc : PE X c (tE N W fc)) :
    PT X (.Compare a [op, op'] [b, c] pos) (tT N W fun ρ => (fa ρ).bind fun r ρ => (fb ρ).bind fun s ρ => (match rdc ρ r, rdc ρ s with
    | some x, some y => (match cmpD op x y with
      | some true => (fc ρ).bind fun t ρ => (match rdc ρ s, rdc ρ t with
        | some x, some y => (match cmpD op' x y with | some c => .ok c ρ | none => .stuck)
        | _, _ => .stuck)
      | some false => .ok false ρ
      | none => .stuck)
    | _, _ => .stuck)) := by
  refine ⟨fun pins s σ H Q I ⟨G, ρ, S, h⟩ => (pt_chain (op_cmpD (N := N) hu op) (op_cmpD (N := N) hu op') ha hb hc hm).run pins s σ H Q I (tK_then (L := kE N) S h fun r ρ1 x H1 S1 k1 fr1 h1 => tK_then (L := kE N) S1 h1 fun s ρ2 y H2 S2 k2 fr2 h2 => ?_)⟩
  have k1 := RvOk.later S1 S2 fr2 k1
  split at h2
  · rename_i dx dy ex ey
    split at h2
    · rename_i ec
      refine ⟨_, dx, dy, (false, .bl true), S2.freshF, k1.rd S2 ex, RvOk.rd S2 k2 ey, by unfold cmp2D; rw [ec]; rfl, fun v H3 sm r => ?_⟩
      cases r
      have S3 := S2.grow sm
      refine ⟨true, rfl, iteT (tK_then (L := kE N) S3 h2 fun t ρ4 w H4 S4 k4 fr4 h4 => ?_)⟩
      have k5 := RvOk.later S3 S4 fr4 (RvOk.same sm k2)
      split at h4
      · rename_i dy' dw ey' ew
        split at h4
        · rename_i c2 ec2
          refine ⟨_, dy', dw, (false, .bl c2), S4.freshF, RvOk.rd S4 k5 ey', RvOk.rd S4 k4 ew, by unfold cmp2D; rw [ec2]; rfl, fun v H5 sm5 r5 => ?_⟩
          cases r5
          exact ⟨c2, rfl, h4.tst (S4.grow sm5)⟩
        · exact h4.elim
      · exact h4.elim
    · rename_i ec
      refine ⟨_, dx, dy, (false, .bl false), S2.freshF, k1.rd S2 ex, RvOk.rd S2 k2 ey, by unfold cmp2D; rw [ec]; rfl, fun v H3 sm r => ?_⟩
      cases r
      exact ⟨false, rfl, iteF ⟨false, rfl, h2.tst (S2.grow sm)⟩⟩
    · exact h2.elim
  · exact h2.elim
/-! ### methods of lists, of ints -/
theorem de_bits {o : Expr} {apos pos : Pos} {fo : Env → Out Rv} (hp : plainO o = true) (hline : (apos.endLine == pos.line) = true) (ho : PE X o (tE N W fo)) :
    PE X (.Call (.Attribute o "bit_length" apos) [] [] pos) (tE N W fun ρ => (fo ρ).bind fun r ρ => op1 (fun x => bmD .bitLength x []) r ρ) := by
  refine ⟨fun pins s σ H Q I ⟨G, ρ, S, h⟩ => (pe_bits ho (attributeBase_plain hp) hline).run pins s σ H Q I (tK_then (L := kE N) S h fun r ρ1 x H1 S1 k1 fr1 h1 => ?_)⟩
  unfold op1 at h1
  split at h1
  · rename_i d ed
    cases d <;> first | exact h1.elim | skip
    rename_i i
    exact ⟨i, (RvOk.rd S1 k1 ed).int, OutOk.val S1 (d := .int _) h1 rfl⟩
  · exact h1.elim
theorem isLst_some {i : Nat} (h : isLst ρ i = true) : ∃ xs k, ownAt ρ i = some (.lst xs, k) := by
  unfold isLst at h
  split at h
  · exact ⟨_, _, by assumption⟩
  · cases h
theorem few_ok {cpos : Pos} {env : PySem.Env} {e : Expr} (hn : notStar e = true) : ((backTo cpos (starEach [e] env)).all (fun x => !x.1) && (backToKw cpos (keywordEach [] env)).all (fun x => x.1.isSome)
      && decide ([e].length + ([] : List Keyword).length + (if ([] : List Keyword).isEmpty then 0 else 1) < 30)) = true := by
  rw [star_all (by rw [List.all_cons, hn]; rfl)]
  rfl
theorem de_app {i : Nat} {x : Str} {e : Expr} {p apos pos : Pos} {fe : Env → Out Rv} (hN : X.N[i]? = some x) (hv : Vis X.env.scope x) (hd : (x == ("__debug__" : Str)) = false) (hcd : (x == ("__classdict__" : Str)) = false)
    (hn : notStar e = true) (hline : (apos.endLine == pos.line) = true) (he : PE X e (tE N W fe)) :
    PE X (.Call (.Attribute (.Name x p) "append" apos) [e] [] pos) (tE N W fun ρ => if isLst ρ i then (fe ρ).bind fun r ρ => app1 i r ρ else .stuck) := by
  refine ⟨fun pins s σ H Q I ⟨G, ρ, S, h⟩ => ?_⟩
  dsimp only at h
  split at h
  · rename_i hi
    obtain ⟨xs, k, eo⟩ := isLst_some hi
    obtain ⟨a, ea, o, _⟩ := S.at_own eo
    obtain ⟨vs, ha, _⟩ := o
    refine (pe_bm PySem.F.plainAttrs_list PySem.F.slot_list_append PySem.F.type_list_append mt_append (pe_var hN hv hd hcd) (pa_cons he pa_nil (starEach_cons hn)) (attributeBase_plain rfl) (few_ok hn) hline (starEach_cons hn) rfl).run pins s σ H Q I ?_
    refine ⟨.ref a, ea, .inl ⟨rfl, vs, .of ha⟩, tK_then2 (L := kE N) S h fun r ρ1 v H1 S1 k1 fr1 h1 => ?_⟩
    unfold app1 at h1
    split at h1
    · rename_i d ρ2 et
      obtain ⟨S2, r2⟩ := toVal_ok (S.comp S1) (by exact k1) (Fresh.back0 S fr1) et
      split at h1
      · rename_i ys k2 eo2
        obtain ⟨a2, ea2, o2, _⟩ := S2.at_own eo2
        rw [ea] at ea2; cases ea2
        obtain ⟨ws, hw, rw2⟩ := o2
        split at h1
        · rename_i hz
          refine ⟨a, ws, v, rfl, rfl, hw, by rw [← rw2.length]; exact of_decide_eq_true hz, ?_⟩
          have mm : Mon (Frz G.Mc σ ρ2) H1 (Frz G.Mc σ ρ2) (upd H1 a (.lst (ws ++ [v]))) := fun b o f e => ⟨f, by
            rw [upd_ne (fun z => f.2 (by subst z; exact (S2.at_own eo2).elim fun _ q => by obtain ⟨e1, _, m⟩ := q; rw [ea] at e1; cases e1; exact m))]
            exact e⟩
          have S3 := S2.write (d' := .lst (ys ++ [d])) eo2 ea ⟨ws ++ [v], upd_same, Reps.append (Reps.mon mm _ _ rw2) (.one (Rep.mon mm _ _ r2))⟩
          exact h1.val S3 rfl
        · exact h1.elim
      · exact h1.elim
    · exact h1.elim
  · exact h.elim
theorem de_pop {i : Nat} {x : Str} {p apos pos : Pos} (hN : X.N[i]? = some x) (hv : Vis X.env.scope x) (hd : (x == ("__debug__" : Str)) = false) (hcd : (x == ("__classdict__" : Str)) = false) (hline : (apos.endLine == pos.line) = true) :
    PE X (.Call (.Attribute (.Name x p) "pop" apos) [] [] pos) (tE N W fun ρ => pop1 i ρ) := by
  refine ⟨fun pins s σ H Q I ⟨G, ρ, S, h1⟩ => ?_⟩
  unfold pop1 at h1
  dsimp only at h1
  split at h1
  · rename_i ys k2 eo2
    obtain ⟨a, ea, o2, ma⟩ := S.at_own eo2
    obtain ⟨ws, hw, rw2⟩ := o2
    split at h1
    · rename_i d ed
      obtain ⟨v, ev, r2⟩ := rw2.get ed
      refine (pe_bm0 PySem.F.plainAttrs_list PySem.F.slot_list_pop PySem.F.type_list_pop mt_pop (pe_var hN hv hd hcd) (attributeBase_plain rfl) hline).run pins s σ H Q I ?_
      refine ⟨.ref a, ea, .inl ⟨rfl, ws, .of hw⟩, a, ws, v, rfl, rfl, hw, by rw [← rw2.length]; exact ev, ?_⟩
      have mm : Mon (Frz G.Mc σ ρ) H (Frz G.Mc σ ρ) (upd H a (.lst ws.dropLast)) := fun b o f e => ⟨f, by
        rw [upd_ne (fun z => f.2 (by subst z; exact ma))]; exact e⟩
      have S3 := S.write (d' := .lst ys.dropLast) eo2 ea ⟨ws.dropLast, upd_same, Reps.mon mm _ _ (by rw [List.dropLast_eq_take, List.dropLast_eq_take, rw2.length]; exact rw2.take _)⟩
      refine h1.val S3 (Rep.mon (fun b o f e => ⟨⟨f.1, fun z => f.2 ?_⟩, e⟩) _ _ (Rep.mon mm _ _ r2))
      obtain ⟨j, ej, mj⟩ := z
      obtain ⟨q, hk⟩ := ownAt_some eo2
      rcases isMut_set mj with ⟨rfl, _⟩ | ⟨_, mj⟩
      · rw [ea] at ej; cases ej; exact ma
      · exact ⟨j, ej, mj⟩
    · exact h1.elim
  · exact h1.elim
theorem de_popAt {i : Nat} {x : Str} {e : Expr} {p apos pos : Pos} {fe : Env → Out Rv} (hN : X.N[i]? = some x) (hv : Vis X.env.scope x) (hd : (x == ("__debug__" : Str)) = false) (hcd : (x == ("__classdict__" : Str)) = false)
    (hn : notStar e = true) (hline : (apos.endLine == pos.line) = true) (he : PE X e (tE N W fe)) :
    PE X (.Call (.Attribute (.Name x p) "pop" apos) [e] [] pos) (tE N W fun ρ => if isLst ρ i then (fe ρ).bind fun r ρ => popAt1 i r ρ else .stuck) := by
  refine ⟨fun pins s σ H Q I ⟨G, ρ, S, h⟩ => ?_⟩
  dsimp only at h
  split at h
  · rename_i hi
    obtain ⟨xs, k, eo⟩ := isLst_some hi
    obtain ⟨a, ea, o, _⟩ := S.at_own eo
    obtain ⟨vs, ha, _⟩ := o
    refine (pe_bm PySem.F.plainAttrs_list PySem.F.slot_list_pop PySem.F.type_list_pop mt_popAt (pe_var hN hv hd hcd) (pa_cons he pa_nil (starEach_cons hn)) (attributeBase_plain rfl) (few_ok hn) hline (starEach_cons hn) rfl).run pins s σ H Q I ?_
    refine ⟨.ref a, ea, .inl ⟨rfl, vs, .of ha⟩, tK_then (L := kE N) S h fun r ρ1 v H1 S1 k1 fr1 h1 => ?_⟩
    unfold popAt1 at h1
    split at h1
    · rename_i j ys k2 er eo2
      cases (RvOk.rd S1 k1 er).int
      obtain ⟨a2, ea2, o2, ma⟩ := S1.at_own eo2
      rw [ea] at ea2; cases ea2
      obtain ⟨ws, hw, rw2⟩ := o2
      split at h1
      · rename_i hz
        have hz := of_decide_eq_true hz
        split at h1
        · rename_i d ed
          obtain ⟨y, ey, ry⟩ := rw2.get ed
          have hl := rw2.length
          refine ⟨a, ws, j, j.toNat, y, rfl, rfl, hw, by omega, hz.2.2, ?_, ey, ?_⟩
          · have hz1 := hz.1
            have hz2 := hz.2.1
            have h1 : ¬ (j < 0) := by omega
            have h2 : j < (ws.length : Int) := by omega
            unfold seqIndex?
            simp only [h1, if_false, hz1, h2, decide_true, Bool.and_self, if_true]
          have mm : Mon (Frz ((G.at σ H ρ).add (ownA r (.int j))).Mc σ ρ1) H1 (Frz ((G.at σ H ρ).add (ownA r (.int j))).Mc σ ρ1) (upd H1 a (.lst (ws.eraseIdx j.toNat))) := fun b o f e => ⟨f, by
            rw [upd_ne (fun z => f.2 (by subst z; exact ma))]; exact e⟩
          have S3 := S1.write (d' := .lst (ys.eraseIdx j.toNat)) eo2 ea ⟨ws.eraseIdx j.toNat, upd_same, Reps.mon mm _ _ (rw2.eraseIdx _)⟩
          refine h1.val S3 (Rep.mon (fun b o f e => ⟨⟨f.1, fun z => f.2 ?_⟩, e⟩) _ _ (Rep.mon mm _ _ ry))
          obtain ⟨j', ej, mj⟩ := z
          rcases isMut_set mj with ⟨rfl, _⟩ | ⟨_, mj⟩
          · rw [ea] at ej; cases ej; exact ma
          · exact ⟨j', ej, mj⟩
        · exact h1.elim
      · exact h1.elim
    · exact h1.elim
  · exact h.elim
end
end Wf

/-! Wf: list(o), o an object whose iterator is that of a tuple it holds -/
namespace Wf
open PySem PySem.Spec PyProof.Rows L2
/-- at it an iterator over the tuple at t, next place i -/
def ItT (t it : Addr) (i : Nat) : HO := .ext fun h => h.IsTupleIter it t i
/-- something stands at it -/
def ItG (it : Addr) : HO := .ext fun h => ∃ u, h.get? it = some u
theorem itT_ok {P : Program} {w : World} {H : Hp} {h : Heap} {t it : Addr} {i : Nat} (e : h.IsTupleIter it t i) : ObjOk P w H h it (ItT t it i) := by
  refine ⟨e, ?_, fun h1 h2 q k => ?_⟩
  · obtain ⟨o, ho, _⟩ := e; exact ⟨o, ho⟩
  · obtain ⟨o, ho, r⟩ := q; exact ⟨o, k o ho, r⟩
theorem itG_ok {P : Program} {w : World} {H : Hp} {h : Heap} {it : Addr} (e : ∃ u, h.get? it = some u) : ObjOk P w H h it (ItG it) :=
  ⟨e, e, fun h1 h2 ⟨o, ho⟩ k => ⟨o, k o ho⟩⟩
section
variable {prog : Program} {w : World} {A : Around} {E : Value → Shared → Prop} {s : Shared}
/-- the end of a tuple's iterator: what stood still stands -/
theorem nextT_end {it t : Addr} {i : Nat} {items : Array Value} {Q : Option Value → Shared → Prop} (calm : A.handled = none)
    (hit : s.heap.IsTupleIter it t i) (ht : s.heap.IsTuple t items) (hx : items[i]? = none)
    (hQ : ∀ h', (∀ b u, b ≠ it → s.heap.get? b = some u → h'.get? b = some u) → (∃ u, h'.get? it = some u) → Q none { s with heap := h' }) :
    wpAny (model prog w) A (pyNext (.ref it)) Q E s := by
  have T := hit.typeIs
  obtain ⟨o, ho, hc, hd⟩ := hit
  obtain ⟨r, hr, _, nr, hdr⟩ := ht
  unfold pyNext
  refine wpAny_bind (wpAny_attempt (wpAny_callSpecial?_slot (name := Str.ofString "__next__") T F.slot_tuple_iterator_next (wpAny_call_entry F.slot_tuple_iterator_next T
    F.entry_tuple_iterator_next ?_ (F.args_tuple_iterator_next_1 _))))
  show wpAny _ _ (field (.ref it) 0 >>= _) _ _ s; refine wpAny_bind (wpAny_field ho hd (x := .ref t) rfl ?_)
  show wpAny _ _ (if (Value.ref t == Value.none) = true then _ else _) _ _ s; rw [if_neg (show ¬ ((Value.ref t == Value.none) = true) from Bool.false_ne_true)]
  show wpAny _ _ (field (.ref it) 1 >>= _) _ _ s; refine wpAny_bind (wpAny_field ho hd (x := .int i 0) rfl ?_)
  show wpAny _ _ (seqItems? (.ref t) >>= _) _ _ s; refine wpAny_bind (wpAny_seqItems hr hdr ?_)
  simp only [Int.toNat_natCast, hx]
  refine wpAny_bind (wpAny_rule (wpAny_bind (wpAny_setField ho hd (by simp) ?_)))
  show wpAny _ _ (newExc (.type "StopIteration") [] >>= _) _ _ _; refine wpAny_bind ?_
  simp only [newExc, newTuple]; refine wpAny_bind (wpAny_newObj_type ?_ (by size_fits))
  refine wpAny_bind (m := firstArgMember _ _) (wpAny_of_eq (a := Value.none) (by first | rfl | (simp only [firstArgMember]; rfl)) (wpAny_newObj_type ?_ (by size_fits)))
  simp only [raiseNew]; refine wpAny_bind (wpAny_handled ?_)
  first | rw [show A.in1.handled = none from calm] | rw [calm]
  refine wpAny_bind (wpAny_pure (wpAny_throw ?_)); refine wpAny_bind (wpAny_isInstance (T := "StopIteration") (b := true) ⟨_, Heap.get?_push_size _ rfl, rfl⟩ isSubtype_stop ?_)
  refine wpAny_pure (hQ _ ?_ ?_)
  · exact fun b u nb e => (((Heap.SameBut.update ..).extBut.push _).push _) b u nb e
  · exact ⟨_, Heap.get?_push_of_some _ (Heap.get?_push_of_some _ (Heap.get?_update_self _ ho (Obj.isFreed_of_fields (Obj.data_mapFields hd _))))⟩
/-- iter(t) -/
theorem call_iterTup {t : Addr} {items : Array Value} {Q : Value → Shared → Prop} (hl : s.heap.IsTuple t items)
    (h : Q (.ref s.heap.objs.size) { s with heap := s.heap.push { cls := .type "tuple_iterator", data := .fields #[.ref t, .int 0 0] } }) : wpAny (model prog w) A (call (.builtin "iter") [.ref t]) Q E s := by
  refine Calls.call_function_entry (by decide +kernel) (by decide +kernel) PySem.W.kdk_entry_iter (PySem.W.kdk_args_iter _) ?_
  unfold Builtin.«iter»
  refine wpAny_bind (m := someArgs "iter" 1 2 _) (wpAny_of_eq (a := [Value.ref t]) (by first | rfl | kernel_rfl!) ?_)
  show wpAny _ _ (pyIter (.ref t) >>= _) _ _ _
  exact wpAny_bind (wpAny_pyIter_tuple hl (wpAny_pure ⟨_, rfl, h⟩))
end
section
variable {X : Cx}
theorem cr_iterT : CallR X (.builtin "iter") (fun xs H Q => ∃ (t : Addr) (zs : List V), xs = [.ref t] ∧ SqT X.K H t zs ∧ ∀ it, H it = none → Q (.ref it) (upd H it (ItT t it 0))) := by
  intro pins s σ H xs us Q I r ⟨t, zs, e, hq, q⟩
  subst e
  rw [Vals.ref1 r]
  obtain ⟨its, rv, pl, hz⟩ := I.tuple hq
  refine call_iterTup pl ?_
  exact ⟨.ref s.heap.objs.size, _, I.laid (t' := s.toks) (fun b u e => Heap.get?_push_of_some _ e) (Nat.le_refl _) (itT_ok ⟨_, Heap.get?_push_size _ rfl, rfl, rfl⟩), rfl, q _ (I.hok.fresh (Nat.le_refl _))⟩
end
/-- the text: return iter(x.g) -/
def iterB (x g : Str) : List Stmt → Bool
  | [.Return (some (.Call (.Name f _) [.Attribute (.Name y _) h _] [] _)) _] => decide (f = ("iter" : Str)) && decide (y = x) && decide (h = g)
  | .Expr (.Constant (.str _) _ _) _ :: r => iterB x g r
  | _ => false
/-- a class whose __iter__ (at fi) is that text -/
structure ItFn (K : PySem.W.Frag) (Ca fi : Addr) (g : Str) : Prop where
  it : PySem.W.findIn K (.ref Ca) "__iter__" = some (some (.ref fi))
  itF : PySem.W.isFn K (.ref fi) = true
  nolen : PySem.W.findIn K (.ref Ca) "__len__" = some none
  nohint : PySem.W.findIn K (.ref Ca) "__length_hint__" = some none
  cls : Cls K Ca
  noat : NoAttr K Ca g
  fn : ∃ (oc : Value) (od : Option Addr) (osl : Array (Option Value)) (name qual : Str) (params : Arguments) (body : List Stmt) (scope : Scope) (dV kV doc pm : Value) (an : Option Addr) (cdv ct : Value),
    K.lookup fi = some ⟨oc, od, .func (PySem.W.fnOf name qual params body scope dV kV doc pm an cdv ct), osl⟩ ∧ PySem.W.codeIn K cdv qual = true ∧ FnScope ["self"] ["self"] scope ∧
      scope.names.lookup ("iter" : Str) = some .globalImplicit ∧ scope.names.lookup ("self" : Str) = some .local ∧ iterB "self" g body = true ∧ Binds K (PySem.W.fnOf name qual params body scope dV kV doc pm an cdv ct) ["self"] []
/-- what __iter__ promises -/
def spIt (K : PySem.W.Frag) (Ca : Addr) (g : Str) : Sp := fun vs H Q _ => ∃ (a dx : Addr) (fs : List (Str × V)) (t : Addr) (zs : List V), vs = [.ref a] ∧ H a = some (.ins Ca dx fs) ∧ fs.lookup g = some (.ref t) ∧ SqT K H t zs ∧
  ∀ it, H it = none → Q (.ref it) (upd H it (ItT t it 0))
def tIt (K : PySem.W.Frag) (Ca : Addr) (g : Str) : TS := fun D σ H => ∃ (a dx : Addr) (fs : List (Str × V)) (t : Addr) (zs : List V), σ[0]? = some (some (.ref a)) ∧ H a = some (.ins Ca dx fs) ∧ fs.lookup g = some (.ref t) ∧ SqT K H t zs ∧
  ∀ it, H it = none → D.rt (.ref it) (upd H it (ItT t it 0))
theorem boot_iter : bootBuiltins "iter" = some (.builtin "iter") := by first | rfl | decide +kernel
theorem iter_body {X : Cx} {Ca : Addr} {g : Str} (c : Cls X.K Ca) (n : NoAttr X.K Ca g) (hN : X.N[0]? = some ("self" : Str)) (hv : Vis X.env.scope "self") (hg : Gl X "iter") (hm : X.mg "iter" = none) :
    ∀ body, iterB "self" g body = true → PSs X body (tIt X.K Ca g) := fun body => by
  induction body with
  | nil => intro h; cases h
  | cons st rest ih =>
    intro h
    unfold iterB at h
    split at h
    · rename_i q
      cases q
      simp only [Bool.and_eq_true, decide_eq_true_eq] at h
      obtain ⟨⟨rfl, rfl⟩, rfl⟩ := h
      refine ⟨fun pins s σ H D I hq => ?_⟩
      obtain ⟨a, dx, fs, t, zs, e0, ha, hl, ht, q⟩ := hq
      refine (pss_one (ps_ret (pe_callB cr_iterT hg hm boot_iter (pa_cons (pe_fld (pe_var hN hv) (attributeBase_plain rfl)) pa_nil)))).run pins s σ H D I ?_
      exact ⟨_, e0, a, Ca, dx, fs, .ref t, rfl, ha, c, n, hl, t, zs, rfl, ht, q⟩
    · rename_i q
      cases q
      exact ⟨fun pins s σ H D I hq => (pss_cons ps_doc (ih h)).run pins s σ H D I hq⟩
    · cases h
section
variable {P : Program} {w : World} {K : PySem.W.Frag} {mg : Str → Option Value} {base : Heap} {Ca fi : Addr} {g : Str}
theorem iter_fn (h : ItFn K Ca fi g) (hmi : mg "iter" = none) : FnR P w K mg base (L2.CX P w) 1 fi (spIt K Ca g) := by
  obtain ⟨oc, od, osl, name, qual, params, body, scope, dV, kV, doc, pm, an, cdv, ct, lk, hcd, S, h1, h2, h3, hb⟩ := h.fn
  have F : FnOk P w K mg base (L2.CX P w) (0 + 1) fi (PySem.W.fnOf name qual params body scope dV kV doc pm an cdv ct) ["self"] (spIt K Ca g) := by
    refine fn_of lk hcd S (fun vs H Q E ⟨_, _, _, _, _, e, _⟩ => by rw [e]; rfl) fun A outer s H vs Q E hr hsp => ?_
    obtain ⟨a, dx, fs, t, zs, e, ha, hl, ht, q⟩ := hsp
    subst e
    refine ⟨tIt K Ca g, iter_body h.cls h.noat rfl (.inl h2) (by unfold Gl Env.kindOf; exact h1) hmi body h3, a, dx, fs, t, zs, rfl, ha, hl, ht, q⟩
  have R := F.raw (dvs := []) hb .nil
  exact R.imp fun vs H Q E q => by rw [List.append_nil]; exact q
end
/-! ### the walk -/
theorem SqT.put {K : PySem.W.Frag} {H : Hp} {t a : Addr} {zs : List V} {o u : HO} (h : SqT K H t zs) (ha : H a = some u) (n1 : ∀ xs, u ≠ .tup xs) (n2 : ∀ ob x, u ≠ .frz ob x) : SqT K (upd H a o) t zs := by
  rcases h with (h | ⟨ob, h⟩) | h
  · exact .inl (.inl (by rw [upd_ne (ne_of h ha fun z => n1 _ z.symm)]; exact h))
  · exact .inl (.inr ⟨ob, by rw [upd_ne (ne_of h ha fun z => n2 _ _ z.symm)]; exact h⟩)
  · exact .inr h
section
variable {X : Cx} {pins : List (Addr × Obj)} {σ : Sg} {A1 : Around} {Rs : Result → Shared → Prop} {H0 : Hp} {q it t : Addr} {zs : List V}
theorem itT_loop (calm : A1.in1.handled = none) (hne : q ≠ it) (h0 : H0 it = none) (hdone : ∀ s', Inv X pins σ (upd H0 q (.lst zs)) s' → Rs (.ok (.ret .none)) s') :
    ∀ (m i : Nat) (H : Hp) (s : Shared), m + i = zs.length → Inv X pins σ H s → H it = some (ItT t it i) → H q = some (.lst (zs.take i)) → SqT X.K H t zs → (∀ b, b ≠ it → b ≠ q → H b = H0 b) →
      codeAny (model X.prog X.w) A1 (.builtin "list.extend.loop" ⟨[.ref q, .ref it, .none], []⟩) Rs s := by
  intro m
  induction m with
  | zero =>
    intro i H s hm I hi hq ht hr
    have ei : i = zs.length := by omega
    subst ei
    refine codeAny_builtin PySem.F.entry_extend_loop ?_
    rw [Around.under_plainId PySem.F.plain_extend_loop _]
    show wpAny _ A1.in1 (pyNext (.ref it) >>= _) _ _ s
    obtain ⟨its, rv, pl, hz⟩ := I.tuple ht
    have hit : s.heap.IsTupleIter it t zs.length := (I.hok it _ hi).1
    refine wpAny_bind (nextT_end calm hit pl (by rw [List.getElem?_toArray]; exact List.getElem?_eq_none (by rw [rv.length]; exact Nat.le_refl _)) fun h' k e => ?_)
    have I1 : Inv X pins σ (upd H it (ItG it)) { s with heap := h' } := I.write (x := it) (e := it) (t' := s.toks) (by rw [hi]; exact True.intro) (.inl rfl) k e (itG_ok e)
    have I2 := ItX.inv_drop (a := it) I1 upd_same
    refine wpAny_pure (hdone _ ?_)
    have eH : ItX.dropH (upd H it (ItG it)) it = upd H0 q (.lst zs) := by
      funext b
      by_cases hb : b = it
      · rw [hb, ItX.dropH_same, upd_ne hne.symm, h0]
      · rw [ItX.dropH_ne hb, upd_ne hb]
        by_cases hbq : b = q
        · rw [hbq, upd_same, hq, List.take_length]
        · rw [upd_ne hbq]; exact hr b hb hbq
    rw [eH] at I2
    exact I2
  | succ m ih =>
    intro i H s hm I hi hq ht hr
    have hlt : i < zs.length := by omega
    refine codeAny_builtin PySem.F.entry_extend_loop ?_
    rw [Around.under_plainId PySem.F.plain_extend_loop _]
    show wpAny _ A1.in1 (pyNext (.ref it) >>= _) _ _ s
    obtain ⟨its, rv, pl, hz⟩ := I.tuple ht
    obtain ⟨u, hu, ru⟩ := rv.get (List.getElem?_eq_getElem hlt)
    have hit : s.heap.IsTupleIter it t i := (I.hok it _ hi).1
    refine wpAny_bind (wpAny_pyNext_tuple_item hit pl (x := u) (by rw [List.getElem?_toArray]; exact hu) fun h' hit' sb => ?_)
    have I1 : Inv X pins σ (upd H it (ItT t it (i + 1))) { s with heap := h' } := I.write (x := it) (e := it) (t' := s.toks) (by rw [hi]; exact True.intro) (.inl rfl) (fun b o nb z => (sb.2 b nb).trans z) (by
      obtain ⟨o, ho, _⟩ := hit'; exact ⟨o, ho⟩) (itT_ok hit')
    have hq1 : upd H it (ItT t it (i + 1)) q = some (.lst (zs.take i)) := by rw [upd_ne hne]; exact hq
    show wpAny _ A1.in1 (updateSeq q (·.push u) >>= _) _ _ _
    obtain ⟨z, its2, k, r2, hl, e⟩ := I1.lstM hq1
    have hti : (zs.take i).length = i := by rw [List.length_take]; omega
    refine wpAny_bind (wpAny_updateSeq e rfl (wpAny_pure ⟨plainId_quiet PySem.F.plain_extend_loop _, ?_⟩) (by rw [List.size_toArray]; omega) (by show (its2.toArray.push u).size ≤ sizeLine + 1; rw [Array.size_push, List.size_toArray]; omega))
    have etake : zs.take i ++ [zs[i]] = zs.take (i + 1) := by rw [List.take_succ_eq_append_getElem hlt]
    have I2 := I1.lset (f := (·.push u)) (its' := its2 ++ [u]) (t' := s.toks) hq1 e (by simp) (r2.append (.cons ru .nil)) (by rw [etake, List.length_take]; omega)
    rw [etake] at I2
    refine ih (i + 1) _ _ (by omega) I2 ?_ upd_same ?_ fun b h1 h2 => ?_
    · rw [upd_ne hne.symm, upd_same]
    · exact SqT.put (SqT.put ht hi (fun _ z => nomatch z) fun _ _ z => nomatch z) hq1 (fun _ z => nomatch z) fun _ _ z => nomatch z
    · rw [upd_ne h2, upd_ne h1]; exact hr b h1 h2
end
section
variable {X : Cx} {Ca fi : Addr} {g : Str} {n : Nat}
theorem env0_to {P : Program} {w : World} {K : PySem.W.Frag} {mg : Str → Option Value} {base : Heap} {A A' : Around} {outer : List PySem.Env} {s : Shared} {H : Hp} (e : Env0 P w K mg base A outer s H) (h : A'.frames = A.frames) : Env0 P w K mg base A' outer s H :=
  ⟨by rw [h]; exact e.frames, e.mod, e.bs, e.bsz, e.funs, e.frf, e.hok, e.bare⟩
/-- nothing is said of the length -/
theorem it_hint {M : Model} {A : Around} {E : Value → Shared → Prop} {Q : Bool → Shared → Prop} {K : PySem.W.Frag} {s : Shared} {a C : Addr} {ox : Obj} {od : Option Obj} (h1 : PySem.W.findIn K (.ref C) "__len__" = some none) (h2 : PySem.W.findIn K (.ref C) "__length_hint__" = some none)
    (hK : K.In s.heap) (J : PySem.W.InstAt s.heap a ox C od) (h : Q true s) : wpAny M A (Builtin.List.listLengthHint (.ref a)) Q E s := by
  unfold Builtin.List.listLengthHint
  refine wpAny_bind (wpAny_bind (J.type.here ((PySem.W.looks_findIn hK h1).here (PySem.W.KFB.if_not rfl (PySem.W.KFB.if_not rfl ?_)))))
  exact wpAny_bind (wpAny_bind (J.type.here ((PySem.W.looks_findIn hK h2).here (wpAny_pure h))))
theorem call_listIt (hc : X.calm = true) (c : ItFn X.K Ca fi g) (FI : FnR X.prog X.w X.K X.mg X.base (L2.CX X.prog X.w) n fi (spIt X.K Ca g)) (hr : Room (n + 2) X.A) : CallR X (.type "list") (fun xs H Q => ∃ (a dx : Addr) (fs : List (Str × V)) (t : Addr) (zs : List V),
    xs = [.ref a] ∧ H a = some (.ins Ca dx fs) ∧ fs.lookup g = some (.ref t) ∧ SqT X.K H t zs ∧ ∀ q, H q = none → Q (.ref q) (upd H q (.lst zs))) := by
  intro pins s σ H xs us Q I rv h
  obtain ⟨a, dx, fs, t, zs, rfl, ha, hl, ht, hq⟩ := h
  rw [Vals.ref1 rv]
  have sb : Sub X n X.A.in1.in1 := (Sub.in1 (Sub.in1 (⟨hr, rfl⟩ : Sub X (n + 2) X.A)))
  have calm : X.A.in1.in1.handled = none := I.ok.hd hc
  refine callType_codes (Q₁ := fun obj s₁ => obj = .ref s.heap.objs.size ∧ s₁ = { s with heap := s.heap.push { cls := .type "list", data := .seq #[] } }) PySem.F.called_list (PySem.F.typeCall_list_1 _) PySem.F.entry_list_init
    (code_list_new _ ⟨rfl, rfl⟩) fun obj s₁ h₁ => ?_
  obtain ⟨rfl, rfl⟩ := h₁
  have hS : (s.heap.push { cls := .type "list", data := .seq #[] }).get? s.heap.objs.size = some { cls := .type "list", data := .seq #[] } := Heap.get?_push_size _ rfl
  refine ⟨⟨_, hS, rfl⟩, PySem.F.args_list_init_2 _ _, ?_⟩
  generalize hp : s.heap.objs.size = p at hS
  have fr : H p = none := by rw [← hp]; exact I.hok.fresh (Nat.le_refl _)
  have I1 : Inv X pins σ (upd H p (.lst [])) { s with heap := s.heap.push { cls := .type "list", data := .seq #[] } } := by
    rw [← hp]; exact I.lnew (its := []) (t' := s.toks) .nil (Nat.zero_le _)
  show wpAny _ _ (do let old ← Builtin.List.listItems (.ref p); Builtin.List.listUpdate (.ref p) (fun _ => #[]); letGo old.toList.reverse; Builtin.List.listExtendWith (.ref p) (.ref a) .none) _ _ _
  refine wpAny_bind ?_
  unfold Builtin.List.listItems
  refine wpAny_bind (wpAny_seqItems hS rfl (wpAny_pure ?_))
  show wpAny _ _ (updateSeq p (fun _ => #[]) >>= fun _ => letGo (#[] : Array Value).toList.reverse >>= fun _ => Builtin.List.listExtendWith (.ref p) (.ref a) .none) _ _ _
  refine wpAny_bind (wpAny_updateSeq hS rfl ?_)
  have I2 := I1.lset (f := fun _ => #[]) (its := []) (its' := []) (ys := []) (t' := s.toks) upd_same hS rfl .nil (Nat.zero_le _)
  rw [upd_upd] at I2
  refine wpAny_bind (wpAny_letGo ?_)
  have hpa : p ≠ a := fun z => by rw [z, ha] at fr; cases fr
  have ha2 : upd H p (.lst []) a = some (.ins Ca dx fs) := by rw [upd_ne hpa.symm]; exact ha
  have ht2 : SqT X.K (upd H p (.lst [])) t zs := by
    rcases ht with (h | ⟨ob, h⟩) | h
    · exact .inl (.inl (by rw [upd_ne (ne_of_none h fr)]; exact h))
    · exact .inl (.inr ⟨ob, by rw [upd_ne (ne_of_none h fr)]; exact h⟩)
    · exact .inr h
  obtain ⟨mA, J, _⟩ := ins_get I2.hok ha2
  obtain ⟨od, J, _⟩ := J.look
  obtain ⟨m0, hF⟩ := I2.fr
  unfold Builtin.List.listExtendWith
  refine wpAny_bind (J.type.here ?_)
  have e1 : Builtin.List.listSameRef (.ref p) (.ref a) = false := by simp [Builtin.List.listSameRef, hpa]
  have e2 : (Value.ref Ca == Value.type "list") = false := rfl
  have e3 : (Value.ref Ca == Value.type "tuple") = false := rfl
  simp only [e1, e2, e3, Bool.or_false, Bool.false_eq_true, if_false]
  refine wpAny_bind (PySem.W.owit_iter hF I2.ok.mod.kin J c.it c.itF ?_)
  have e0 := env0_to I2.env0 sb.fr
  have run := FI X.A.in1.in1 X.stack _ (upd H p (.lst [])) [.ref a] [.ref a] (fun v H' => ∃ it, v = .ref it ∧ upd H p (.lst []) it = none ∧ H' = upd (upd H p (.lst [])) it (ItT t it 0)) (fun _ _ _ => False) sb.room e0 (.cons rfl .nil)
    ⟨a, dx, fs, t, zs, rfl, ha2, hl, ht2, fun it hn => ⟨it, rfl, hn, rfl⟩⟩
  refine wpAny_call (codeAny_mono run fun r s' hq' => ?_)
  cases r with
  | error e => obtain ⟨_, _, _, _, _, _, _, _, _, _, _, _, z⟩ := hq'; exact z.elim
  | ok fl =>
    cases fl with
    | next => exact False.elim hq'
    | brk => exact False.elim hq'
    | cont => exact False.elim hq'
    | ret u =>
      obtain ⟨v, H', I', rv', it, ev, hit, eH⟩ := I2.after hq'
      subst ev
      subst eH
      obtain rfl : u = Value.ref it := rv'
      have hnit : p ≠ it := fun z => by rw [← z, upd_same] at hit; cases hit
      have h0 : H it = none := by rw [upd_ne hnit.symm] at hit; exact hit
      have hita : a ≠ it := fun z => by rw [← z] at hit; rw [ha2] at hit; cases hit
      have hitT : s'.heap.IsTupleIter it t 0 := (I'.hok it _ upd_same).1
      show PySem.W.OwitIt _ _ _ _ _ _
      unfold PySem.W.OwitIt
      refine wpAny_specialOf hitT.typeIs F.slot_tuple_iterator_next.lookup ?_
      have ha3 : upd (upd H p (.lst [])) it (ItT t it 0) a = some (.ins Ca dx fs) := by rw [upd_ne hita]; exact ha2
      have hp3 : upd (upd H p (.lst [])) it (ItT t it 0) p = some (.lst []) := by rw [upd_ne hnit, upd_same]
      have ht3 : SqT X.K (upd (upd H p (.lst [])) it (ItT t it 0)) t zs := by
        rcases ht2 with (h | ⟨ob, h⟩) | h
        · exact .inl (.inl (by rw [upd_ne (ne_of_none h hit)]; exact h))
        · exact .inl (.inr ⟨ob, by rw [upd_ne (ne_of_none h hit)]; exact h⟩)
        · exact .inr h
      obtain ⟨mA', J', _⟩ := ins_get I'.hok ha3
      obtain ⟨od', J', _⟩ := J'.look
      refine wpAny_bind (wpAny_holding (it_hint c.nolen c.nohint I'.kIn J' ?_))
      obtain ⟨z, its, k, r3, hl3, e3'⟩ := I'.lstM hp3
      cases r3
      have go : ∀ s2, Inv X pins σ (upd (upd H p (.lst [])) it (ItT t it 0)) s2 → codeAny (model X.prog X.w) X.A.in1 (.builtin "list.extend.loop" ⟨[.ref p, .ref it, .none], []⟩) (wants (fun r s₂ => r = .none ∧ EP X pins σ Q (.ref p) s₂) X.xe) s2 := fun s2 Is =>
        itT_loop (zs := zs) (t := t) (H0 := H) calm hnit h0 (fun s' Ie => ⟨rfl, .ref p, _, Ie, rfl, hq p fr⟩) zs.length 0 _ s2 rfl Is upd_same hp3 ht3 fun b h1 h2 => by rw [upd_ne h1, upd_ne h2]
      refine wpAny_ite_split (fun _ => ?_) (fun _ => wpAny_pure ⟨plainId_quiet PySem.F.plain_extend_loop _, go _ I'⟩)
      refine wpAny_bind (wpAny_rule ?_)
      refine wpAny_bind ?_
      show wpAny _ _ (updateSeq p (·.push .none) >>= fun _ => updateSeq p (·.pop)) _ _ _
      refine wpAny_bind (wpAny_updateSeq e3' rfl ?_)
      have I4 := I'.lset (f := (·.push Value.none)) (its' := [Value.none]) (ys := [.non]) (t' := s'.toks) hp3 e3' (by simp) (.cons rfl .nil) (by rw [List.length_singleton, sizeLine_eq]; decide)
      obtain ⟨z4, its4, k4, r4, hl4, e4⟩ := I4.lstM upd_same
      obtain ⟨u4, rfl, ru4⟩ := r4.one
      refine wpAny_updateSeq e4 rfl ?_ (by show 1 ≤ sizeLine; rw [sizeLine_eq]; decide) (by show 0 ≤ sizeLine + 1; exact Nat.zero_le _)
      have I5 := I4.lset (f := (·.pop)) (its := [u4]) (its' := []) (ys := []) (t' := s'.toks) upd_same e4 (by rfl) .nil (Nat.zero_le _)
      rw [upd_upd] at I5
      have hH : ∀ G : Hp, G p = some (.lst []) → upd G p (.lst []) = G := fun G e => by
        funext b
        by_cases hb : b = p
        · rw [hb, upd_same, e]
        · rw [upd_ne hb]
      rw [hH _ hp3] at I5
      exact wpAny_pure ⟨plainId_quiet PySem.F.plain_extend_loop _, go _ I5⟩
end
section
variable {X : Cx} {N : Nm} {W : WX}
/-- list(o) in the small code -/
theorem de_lso {T : Tab} {e : Expr} {p pos : Pos} {fe : Env → Out Rv} (hc : X.calm = true) (hr : Room (1 + 2) X.A) (hN : NmOk N) (hI : ∀ C Ca f, N.cls C = some Ca → T.itf C = some f → ∃ fi, ItFn X.K Ca fi (N.fld f))
    (hmi : X.mg "iter" = none) (hg : Gl X "list") (hm : X.mg "list" = none) (hst : notStar e = true) (he : PE X e (tE N W fe)) : PE X (.Call (.Name "list" p) [e] [] pos) (tE N W fun ρ => (fe ρ).bind fun r ρ => op1 (lsoD T) r ρ) := by
  have cr : CallR X (.type "list") (fun vs H Q => match vs with | [v] => rD1 N (lsoD T) v H Q | _ => False) := by
    intro pins s σ H vs us Q I r h
    rcases vs with _ | ⟨v, _ | ⟨_, _⟩⟩
    · exact h.elim
    rotate_left
    · exact h.elim
    obtain ⟨F, dx, o, fF, hx, eo, q⟩ := h
    unfold lsoD at eo
    split at eo
    · rename_i C fs
      obtain ⟨a, Ca, ddx, ws, rfl, ec, ha, rf⟩ := hx.ins
      split at eo
      · rename_i f ef
        split at eo
        · rename_i ds el
          cases eo
          obtain ⟨fi, hfi⟩ := hI C Ca f ec ef
          obtain ⟨tv, lv, rv⟩ := RepF.some hN rf el
          obtain ⟨t, zs, rfl, ht, rz⟩ := Rd1.tup (.inl rv)
          exact call_listIt hc hfi (iter_fn hfi hmi) hr pins s σ H _ us Q I r ⟨a, ddx, ws, t, zs, rfl, ha, lv, .inl (.inl ht), fun p hn => q.lst rfl rz hn⟩
        · cases eo
      · cases eo
    · cases eo
  refine ⟨fun pins s σ H Q I h => ?_⟩
  exact (pe_callTy cr hg hm (by first | rfl | decide +kernel) (pa_cons he pa_nil (starEach_cons hst)) (by decide) (by decide) (starEach_cons hst)).run pins s σ H Q I (un_read h)
end
end Wf

/-! Wf: what a loop walks -/
namespace Wf
open PySem PySem.Spec PyProof.Rows L2
/-- the iterator J hands on ds, as long as what stands still does -/
def Feed (N : Nm) (Fs Mz : Addr → Prop) (H0 : Hp) (ds : List D) (J : It) : Prop :=
  ∀ H', (∀ b o, H0 b = some o → Mz b → H' b = some o) →
    (∀ i d, ds[i]? = some d → J.go i H' ∧ ∀ x H'', J.yld i H' x H'' → Same H' H'' ∧ ∀ F', Mon Fs H0 F' H'' → (∀ a, H' a = none → F' a) → Rep N F' H'' d x) ∧
    ∀ i, ds.length ≤ i → J.stop i H'
def kI (N : Nm) : Kit N (List D) It where
  own := fun _ _ => noA
  ok := fun Mc σ H ρ ds J => Feed N (Frz Mc σ ρ) (fun b => ¬ muts σ ρ b) H ds J
  weak := fun Mc Mc' σ H ρ ds J h1 _ h H' hs => by
    obtain ⟨q1, q2⟩ := h H' hs
    refine ⟨fun i d e => ?_, q2⟩
    obtain ⟨g, y⟩ := q1 i d e
    refine ⟨g, fun x H'' hy => ?_⟩
    obtain ⟨sm, r⟩ := y x H'' hy
    exact ⟨sm, fun F' m fr => r F' (fun a o f e => m a o ⟨fun z => f.1 (h1 a z), f.2⟩ e) fr⟩
abbrev tI (N : Nm) (W : WX) (f : Env → Out (List D)) : TI := tK (kI N) W f
theorem iotaD_get : ∀ {n i : Nat} {lo : Int} {d : D}, (iotaD lo n)[i]? = some d → i < n ∧ d = .int (lo + i)
  | 0, _, _, _, e => by simp [iotaD] at e
  | n + 1, 0, lo, d, e => by
    simp [iotaD] at e
    subst e
    exact ⟨Nat.succ_pos _, by simp⟩
  | n + 1, i + 1, lo, d, e => by
    have e' : (iotaD (lo + 1) n)[i]? = some d := by simpa [iotaD] using e
    obtain ⟨h1, h2⟩ := iotaD_get e'
    refine ⟨by omega, ?_⟩
    rw [h2]
    congr 1
    push_cast
    omega
theorem iotaD_len : ∀ {n : Nat} {lo : Int}, (iotaD lo n).length = n
  | 0, _ => rfl
  | n + 1, lo => by simp [iotaD, iotaD_len (n := n)]
theorem enumD_get : ∀ {ds : List D} {i : Nat} {k : Int} {d : D}, (enumD k ds)[i]? = some d → ∃ e, ds[i]? = some e ∧ d = .tup [.int (k + i), e]
  | [], _, _, _, e => by simp [enumD] at e
  | d0 :: ds, 0, k, d, e => by
    simp [enumD] at e
    subst e
    exact ⟨d0, rfl, by simp⟩
  | d0 :: ds, i + 1, k, d, e => by
    have e' : (enumD (k + 1) ds)[i]? = some d := by simpa [enumD] using e
    obtain ⟨x, h1, h2⟩ := enumD_get e'
    refine ⟨x, by simpa using h1, ?_⟩
    rw [h2]
    have : k + 1 + (i : Int) = k + ((i + 1 : Nat) : Int) := by push_cast; omega
    rw [this]
theorem enumD_len : ∀ {ds : List D} {k : Int}, (enumD k ds).length = ds.length
  | [], _ => rfl
  | d :: ds, k => by simp [enumD, enumD_len (ds := ds)]
theorem zipD_get : ∀ {ds es : List D} {i : Nat} {d : D}, (zipD ds es)[i]? = some d → ∃ x y, ds[i]? = some x ∧ es[i]? = some y ∧ d = .tup [x, y]
  | [], es, i, d, h => by simp [zipD] at h
  | _ :: _, [], i, d, h => by simp [zipD] at h
  | x :: ds, y :: es, 0, d, h => by
    simp [zipD] at h
    subst h
    exact ⟨x, y, rfl, rfl, rfl⟩
  | x :: ds, y :: es, i + 1, d, h => by
    obtain ⟨x', y', h1, h2, h3⟩ := zipD_get (ds := ds) (es := es) (i := i) (d := d) (by simpa [zipD] using h)
    exact ⟨x', y', by simpa using h1, by simpa using h2, h3⟩
theorem zipD_len : ∀ {ds es : List D} {i : Nat}, (zipD ds es).length ≤ i → ds.length ≤ i ∨ es.length ≤ i
  | [], es, i, _ => .inl (Nat.zero_le _)
  | _ :: _, [], i, _ => .inr (Nat.zero_le _)
  | x :: ds, y :: es, 0, h => by simp [zipD] at h
  | x :: ds, y :: es, i + 1, h => by
    have := zipD_len (ds := ds) (es := es) (i := i) (by simpa [zipD] using h)
    simpa using this
section
variable {X : Cx} {N : Nm} {W : WX} {G : Gh} {σ : Sg} {H H' : Hp} {ρ ρ' : Env} {F : Addr → Prop}
/-- a list or a tuple, as it stands -/
inductive Sq2 (K : PySem.W.Frag) (H : Hp) (a : Addr) (vs : List V) : Prop
  | l (h : H a = some (.lst vs)) | t (h : H a = some (.tup vs))
/-- what is walked: where it is, its items -/
theorem src_items {G' : Gh} {d : D} {v : V} {xs : List D} (S : StOk N G' σ H ρ) (k : SrcOk N G' σ H ρ d v) (e : itemsD d = some xs) :
    ∃ a vs, v = .ref a ∧ (H a = some (.lst vs) ∨ H a = some (.tup vs)) ∧ ¬ muts σ ρ a ∧ Reps N (Frz G'.Mc σ ρ) H xs vs := by
  unfold itemsD at e
  split at e
  · cases e
    rcases k with ⟨a, vs, ev, f, h, r⟩ | ⟨a, ev, nm, vs, h, r⟩
    · exact ⟨a, vs, ev, .inl h, f.2, r⟩
    · exact ⟨a, vs, ev, .inl h, nm, r⟩
  · cases e
    rcases k with ⟨a, vs, ev, f, h, r⟩ | ⟨a, ev, nm, h⟩
    · exact ⟨a, vs, ev, .inr h, f.2, r⟩
    · exact h.elim
  · cases e
theorem sqL_eq {K : PySem.W.Frag} {a : Addr} {vs ws : List V} (h : H a = some (.lst vs)) (hk : K.lookup a = none) (q : SqL K H a ws) : ws = vs := by
  rcases q with q | ⟨o, its, n, q, _⟩
  · rcases q with q | ⟨o, q⟩
    · rw [h] at q; cases q; rfl
    · rw [h] at q; cases q
  · rw [hk] at q; cases q
theorem feed_list {K : PySem.W.Frag} {Fs Mz : Addr → Prop} {a : Addr} {vs : List V} {xs : List D} (hl : H a = some (.lst vs)) (hm : Mz a) (r : Reps N Fs H xs vs) : Feed N Fs Mz H xs (Itl K a) := fun H' hs => by
  have h' := hs a _ hl hm
  refine ⟨fun i d e => ?_, fun i hi => ⟨vs, .of h', by rw [← r.length]; exact hi⟩⟩
  obtain ⟨v, ev, rv⟩ := r.get e
  refine ⟨⟨vs, v, .of h', ev⟩, fun x H'' ⟨e1, e2⟩ => ?_⟩
  subst e1
  have := e2 vs (.of h')
  rw [ev] at this; cases this
  exact ⟨Same.refl _, fun F' m _ => Rep.mon m _ _ rv⟩
theorem feed_tup {K : PySem.W.Frag} {Fs Mz : Addr → Prop} {a : Addr} {vs : List V} {xs : List D} (hl : H a = some (.tup vs)) (hm : Mz a) (r : Reps N Fs H xs vs) : Feed N Fs Mz H xs (Itt K a) := fun H' hs => by
  have h' := hs a _ hl hm
  refine ⟨fun i d e => ?_, fun i hi => ⟨vs, .of h', by rw [← r.length]; exact hi⟩⟩
  obtain ⟨v, ev, rv⟩ := r.get e
  refine ⟨⟨vs, v, .of h', ev⟩, fun x H'' ⟨e1, e2⟩ => ?_⟩
  subst e1
  have := e2 vs (.of h')
  rw [ev] at this; cases this
  exact ⟨Same.refl _, fun F' m _ => Rep.mon m _ _ rv⟩
/-- for .. in a list or a tuple -/
theorem pi_seq {tg l : Expr} {tl : TE} (hl : PE X l tl) : PI X tg l (fun σ H R => tl σ H fun x H1 => ∃ a, x = .ref a ∧ (((∃ xs, SqL X.K H1 a xs) ∧ R (Itl X.K a) H1) ∨ ((∃ xs, SqT X.K H1 a xs) ∧ R (Itt X.K a) H1))) := by
  refine ⟨fun pins s σ H R I h => thn (hl.run pins s σ H _ I h) fun v s1 ⟨x, H1, I1, r1, a, ex, q⟩ => ?_⟩
  subst ex
  cases r1
  have fr : ∀ b ∈ [s1.heap.objs.size], FpOk X pins H1 b := fun b hb => by
    cases (List.mem_singleton.mp hb)
    exact I1.fpOk (Nat.le_refl _) (I1.hok.fresh (Nat.le_refl _))
  rcases q with ⟨⟨xs, hx⟩, q⟩ | ⟨⟨xs, hx⟩, q⟩
  · obtain ⟨its, rv, p, hz⟩ := I1.list hx
    exact wpAny_pyIter_list p.isList ⟨_, _, _, _, H1, rfl, I1.kept (t' := s1.toks) fun b o e => Heap.get?_push_of_some _ e, turn_list a _, ⟨_, Heap.get?_push_size _ rfl, rfl, rfl⟩, fr, q⟩
  · obtain ⟨its, rv, p, hz⟩ := I1.tuple hx
    exact wpAny_pyIter_tuple (show s1.heap.IsTuple a its.toArray from p) ⟨_, _, _, _, H1, rfl, I1.kept (t' := s1.toks) fun b o e => Heap.get?_push_of_some _ e, turn_tuple a _, ⟨_, Heap.get?_push_size _ rfl, rfl, rfl⟩, fr, q⟩
theorem OutOk.items {ds : List D} {J : It} {Q : It → Hp → Prop} (S : StOk N G σ H ρ) (h : OutOk (kI N) W G σ Q (.ok ds ρ)) (f : Feed N (Frz G.Mc σ ρ) (fun b => ¬ muts σ ρ b) H ds J) : Q J H := by
  refine h J H ?_ ?_ Fresh.no
  · show StOk N (G.add noA) σ H ρ
    rw [Gh.add_no]; exact S
  · show Feed N (Frz (G.add noA).Mc σ ρ) _ H ds J
    rw [Gh.add_no]; exact f
theorem di_of {tg e : Expr} {fe : Env → Out Rv} (he : PE X e (tE N W fe)) : PI X tg e (tI N W fun ρ => (fe ρ).bind fun r ρ => (match toSrc ρ r with
    | some (d, ρ) => (match itemsD d with | some xs => .ok xs ρ | none => .stuck)
    | none => .stuck)) := by
  refine ⟨fun pins s σ H R I ⟨G, ρ, S, h⟩ => (pi_seq he).run pins s σ H R I (tK_then2 (L := kE N) S h fun r ρ1 v H1 S1 k1 fr1 h1 => ?_)⟩
  split at h1
  · rename_i d ρ2 et
    split at h1
    · rename_i xs ei
      obtain ⟨S2, k2⟩ := toSrc_ok (S.comp S1) (by exact k1) et
      obtain ⟨a, vs, ev, hv, nm, r⟩ := src_items S2 k2 ei
      have S3 : StOk N G σ H1 ρ2 := S2.drop
      have r3 : Reps N (Frz G.Mc σ ρ2) H1 xs vs := Reps.mon (frz_weak fun _ z => .inl z) _ _ r
      refine ⟨a, ev, ?_⟩
      rcases hv with hv | hv
      · exact .inl ⟨⟨vs, .of hv⟩, h1.items S3 (feed_list hv nm r3)⟩
      · exact .inr ⟨⟨vs, .of hv⟩, h1.items S3 (feed_tup hv nm r3)⟩
    · exact h1.elim
  · exact h1.elim
theorem feed_range {Fs Mz : Addr → Prop} {lo : Int} {n : Nat} : Feed N Fs Mz H (iotaD lo n) (Itr lo n) := fun H' hs => by
  refine ⟨fun i d e => ?_, fun i hi => by rw [iotaD_len] at hi; exact hi⟩
  obtain ⟨h1, h2⟩ := iotaD_get e
  refine ⟨h1, fun x H'' ⟨e1, e2⟩ => ?_⟩
  subst e1 e2
  exact ⟨Same.refl _, fun F' m _ => by rw [h2]; rfl⟩
theorem di_range1 {tg a : Expr} {p pos : Pos} {fa : Env → Out Rv} (hg : Gl X "range") (hm : X.mg "range" = none) (na : notStar a = true) (ha : PE X a (tE N W fa)) :
    PI X tg (.Call (.Name "range" p) [a] [] pos) (tI N W fun ρ => (fa ρ).bind fun r ρ => (match rdc ρ r with
    | some (.int j) => if rngOk j then .ok (iotaD 0 j.toNat) ρ else .stuck
    | _ => .stuck)) := by
  refine ⟨fun pins s σ H R I ⟨G, ρ, S, h⟩ => (pi_range1 hg hm (pa_cons ha pa_nil (starEach_cons na)) (starEach_cons na)).run pins s σ H R I (tK_then (L := kE N) S h fun r ρ1 v H1 S1 k1 fr1 h1 => ?_)⟩
  split at h1
  · rename_i j ej
    cases (RvOk.rd S1 k1 ej).int
    split at h1
    · rename_i hr
      have hr := of_decide_eq_true hr
      exact ⟨j, rfl, hr.1, hr.2, h1.items S1 feed_range⟩
    · exact h1.elim
  · exact h1.elim
theorem di_range2 {tg a b : Expr} {p pos : Pos} {fa fb : Env → Out Rv} (hg : Gl X "range") (hm : X.mg "range" = none) (na : notStar a = true) (nb : notStar b = true) (ha : PE X a (tE N W fa)) (hb : PE X b (tE N W fb)) :
    PI X tg (.Call (.Name "range" p) [a, b] [] pos) (tI N W fun ρ => (fa ρ).bind fun r ρ => (fb ρ).bind fun s ρ => (match rdc ρ r, rdc ρ s with
    | some (.int i), some (.int j) => if rngOk i && rngOk j then .ok (iotaD i (j - i).toNat) ρ else .stuck
    | _, _ => .stuck)) := by
  refine ⟨fun pins s σ H R I ⟨G, ρ, S, h⟩ => (pi_range2 hg hm (pa_cons ha (pa_cons hb pa_nil (starEach_cons nb)) (starEach_cons na)) (by rw [starEach_cons na, starEach_cons nb]; rfl) (starEach_cons nb)).run pins s σ H R I
    (tK_then (L := kE N) S h fun r ρ1 x H1 S1 k1 fr1 h1 => tK_then (L := kE N) S1 h1 fun s ρ2 y H2 S2 k2 fr2 h2 => ?_)⟩
  have k1 := RvOk.later S1 S2 fr2 k1
  split at h2
  · rename_i i j ei ej
    cases (k1.rd S2 ei).int
    cases (RvOk.rd S2 k2 ej).int
    split at h2
    · rename_i hr
      rw [Bool.and_eq_true] at hr
      have h1 := of_decide_eq_true hr.1
      have h3 := of_decide_eq_true hr.2
      exact ⟨i, j, rfl, ⟨h1.1, h1.2, h3.1, h3.2⟩, h2.items S2 feed_range⟩
    · exact h2.elim
  · exact h2.elim
theorem feed_enum {K : PySem.W.Frag} {Fs Mz : Addr → Prop} {a : Addr} {vs : List V} {xs : List D} (hl : H a = some (.lst vs)) (hm : Mz a) (r : Reps N Fs H xs vs) : Feed N Fs Mz H (enumD 0 xs) (Ite K a) := fun H' hs => by
  have h' := hs a _ hl hm
  refine ⟨fun i d e => ?_, fun i hi => ⟨vs, .of h', by rw [← r.length]; rw [enumD_len] at hi; exact hi⟩⟩
  obtain ⟨e0, ee, ed⟩ := enumD_get e
  subst ed
  obtain ⟨v, ev, rv⟩ := r.get ee
  refine ⟨⟨vs, v, .of h', ev⟩, fun x H'' ⟨T, y, ex, hT, eH, hy⟩ => ?_⟩
  have := hy vs (.of h')
  rw [ev] at this; cases this
  subst ex eH
  refine ⟨same_new hT, fun F' m fr => ⟨T, _, rfl, fr T hT, upd_same, .int (i : Nat), [v], rfl, ?_, v, [], rfl, Rep.mon m _ _ rv, rfl⟩⟩
  show V.int (i : Nat) = V.int (0 + (i : Nat))
  rw [Int.zero_add]
theorem di_enum {e : Expr} {elts : List Expr} {kk : Nat} {tpos p pos : Pos} {fe : Env → Out Rv} (hg : Gl X "enumerate") (hm : X.mg "enumerate" = none) (ne : notStar e = true) (he : PE X e (tE N W fe)) :
    PI X (.Tuple elts kk tpos) (.Call (.Name "enumerate" p) [e] [] pos) (tI N W fun ρ => (fe ρ).bind fun r ρ => (match toSrc ρ r with
    | some (d, ρ) => (match d with | .lst xs => .ok (enumD 0 xs) ρ | _ => .stuck)
    | none => .stuck)) := by
  refine ⟨fun pins s σ H R I ⟨G, ρ, S, h⟩ => (pi_enum hg hm (pa_cons he pa_nil (starEach_cons ne)) (starEach_cons ne)).run pins s σ H R I (tK_then2 (L := kE N) S h fun r ρ1 v H1 S1 k1 fr1 h1 => ?_)⟩
  split at h1
  · rename_i d ρ2 et
    split at h1
    · rename_i xs
      obtain ⟨S2, k2⟩ := toSrc_ok (S.comp S1) (by exact k1) et
      have k3 : ∃ a vs, v = .ref a ∧ H1 a = some (.lst vs) ∧ ¬ muts σ ρ2 a ∧ Reps N (Frz (G.add (ownA r v)).Mc σ ρ2) H1 xs vs := by
        rcases k2 with ⟨a, vs, ev, f, h, r⟩ | ⟨a, ev, nm, vs, h, r⟩
        · exact ⟨a, vs, ev, h, f.2, r⟩
        · exact ⟨a, vs, ev, h, nm, r⟩
      obtain ⟨a, vs, ev, hv, nm, r⟩ := k3
      have S3 : StOk N G σ H1 ρ2 := S2.drop
      have r3 : Reps N (Frz G.Mc σ ρ2) H1 xs vs := Reps.mon (frz_weak fun _ z => .inl z) _ _ r
      exact ⟨a, vs, by rw [ev], .of hv, h1.items S3 (feed_enum hv nm r3)⟩
    · exact h1.elim
  · exact h1.elim
theorem feed_zipL {K : PySem.W.Frag} {Fs Mz : Addr → Prop} {a b : Addr} {vs ws : List V} {xs ys : List D} (ha : H a = some (.lst vs)) (hb : H b = some (.lst ws)) (hma : Mz a) (hmb : Mz b) (r : Reps N Fs H xs vs) (q : Reps N Fs H ys ws) : Feed N Fs Mz H (zipD xs ys) (Itz K a b) := fun H' hs => by
  have h1 := hs a _ ha hma
  have h2 := hs b _ hb hmb
  refine ⟨fun i d e => ?_, fun i hi => ⟨vs, ws, .of h1, .of h2, by rw [← r.length, ← q.length]; exact zipD_len hi⟩⟩
  obtain ⟨dx, dy, ex, ey, ed⟩ := zipD_get e
  subst ed
  obtain ⟨v, ev, rv⟩ := r.get ex
  obtain ⟨w, ew, rw'⟩ := q.get ey
  refine ⟨⟨vs, ws, v, w, .of h1, .of h2, ev, ew⟩, fun x H'' ⟨T, x', y', exx, hT, eH, hx, hy⟩ => ?_⟩
  have e1 := hx vs (.of h1)
  have e2 := hy ws (.of h2)
  rw [ev] at e1; cases e1
  rw [ew] at e2; cases e2
  subst exx eH
  exact ⟨same_new hT, fun F' m fr => ⟨T, _, rfl, fr T hT, upd_same, v, [w], rfl, Rep.mon m _ _ rv, w, [], rfl, Rep.mon m _ _ rw', rfl⟩⟩
theorem feed_zipT {K : PySem.W.Frag} {Fs Mz : Addr → Prop} {a b : Addr} {vs ws : List V} {xs ys : List D} (ha : H a = some (.tup vs)) (hb : H b = some (.tup ws)) (hma : Mz a) (hmb : Mz b) (r : Reps N Fs H xs vs) (q : Reps N Fs H ys ws) : Feed N Fs Mz H (zipD xs ys) (RZ.ItzT K a b) := fun H' hs => by
  have h1 := hs a _ ha hma
  have h2 := hs b _ hb hmb
  refine ⟨fun i d e => ?_, fun i hi => ⟨vs, ws, .of h1, .of h2, by rw [← r.length, ← q.length]; exact zipD_len hi⟩⟩
  obtain ⟨dx, dy, ex, ey, ed⟩ := zipD_get e
  subst ed
  obtain ⟨v, ev, rv⟩ := r.get ex
  obtain ⟨w, ew, rw'⟩ := q.get ey
  refine ⟨⟨vs, ws, v, w, .of h1, .of h2, ev, ew⟩, fun x H'' ⟨T, x', y', exx, hT, eH, hx, hy⟩ => ?_⟩
  have e1 := hx vs (.of h1)
  have e2 := hy ws (.of h2)
  rw [ev] at e1; cases e1
  rw [ew] at e2; cases e2
  subst exx eH
  exact ⟨same_new hT, fun F' m fr => ⟨T, _, rfl, fr T hT, upd_same, v, [w], rfl, Rep.mon m _ _ rv, w, [], rfl, Rep.mon m _ _ rw', rfl⟩⟩
theorem toSrc_mu {r : Rv} {d : D} (e : toSrc ρ r = some (d, ρ')) : ∀ a, muts σ ρ' a → muts σ ρ a := by
  cases r with
  | val d' => cases e; exact fun _ z => z
  | own d' => cases e; exact fun _ z => z
  | bor i =>
    simp only [toSrc] at e
    split at e
    · cases e; exact fun _ z => z
    · cases e
      rintro a ⟨j, ej, mj⟩
      exact (isMut_set mj).elim (fun z => nomatch z.2) fun z => ⟨j, ej, z.2⟩
    · cases e; exact fun _ z => z
    · cases e
theorem SrcOk.later {G' : Gh} {d : D} {v : V} (mu : ∀ a, muts σ ρ' a → muts σ ρ a) (k : SrcOk N G' σ H ρ d v) : SrcOk N G' σ H ρ' d v := by
  have m : Mon (Frz G'.Mc σ ρ) H (Frz G'.Mc σ ρ') H := fun a o f e => ⟨⟨f.1, fun z => f.2 (mu a z)⟩, e⟩
  rcases k with k | ⟨a, ev, nm, o⟩
  · exact .inl (Rep.mon m _ _ k)
  · exact .inr ⟨a, ev, fun z => nm (mu a z), o.mon m fun _ z => z⟩
theorem SrcOk.weak {G' : Gh} {Mc : Addr → Prop} {d : D} {v : V} (h : ∀ x, Mc x → G'.Mc x) (k : SrcOk N G' σ H ρ d v) : SrcOk N { G' with Mc := Mc } σ H ρ d v :=
  k.imp (Rep.mon (frz_weak h) _ _) fun ⟨a, ev, nm, o⟩ => ⟨a, ev, nm, o.mon (frz_weak h) fun _ z => z⟩
theorem di_zip {e e2 : Expr} {elts : List Expr} {kk : Nat} {tpos p pos : Pos} {fe fe2 : Env → Out Rv} (hg : Gl X "zip") (hm : X.mg "zip" = none) (ne : notStar e = true) (ne2 : notStar e2 = true) (he : PE X e (tE N W fe)) (he2 : PE X e2 (tE N W fe2)) :
    PI X (.Tuple elts kk tpos) (.Call (.Name "zip" p) [e, e2] [] pos) (tI N W fun ρ => (fe ρ).bind fun r ρ => (fe2 ρ).bind fun s ρ => (match toSrc ρ r with
    | some (d, ρ) => (match toSrc ρ s with
      | some (e, ρ) => (match zip2D d e with | some xs => .ok xs ρ | none => .stuck)
      | none => .stuck)
    | none => .stuck)) := by
  have hA : PA X [e, e2] _ := pa_cons he (pa_cons he2 pa_nil (starEach_cons ne2)) (starEach_cons ne)
  refine ⟨fun pins s σ H R I ⟨G, ρ, S, h⟩ => (RZ.pi_zipA hg hm hA (starEach_cons ne) (star_any (by rw [List.all_cons, ne2]; rfl))).run pins s σ H R I
    (tK_then (L := kE N) S h fun r ρ1 x H1 S1 k1 fr1 h1 => tK_then (L := kE N) S1 h1 fun s ρ2 y H2 S2 k2 fr2 h2 => ?_)⟩
  have k1 := RvOk.later S1 S2 fr2 k1
  split at h2
  · rename_i d ρ3 et1
    split at h2
    · rename_i d2 ρ4 et2
      split at h2
      · rename_i xs ez
        -- both results owned or not: nothing is owned behind
        have SA : StOk N ((((G.at σ H ρ).add (ownA r x)).at σ H1 ρ1).add fun a => ownA s y a) σ H2 ρ2 := S2
        have Sr : StOk N (((((G.at σ H ρ).add (ownA r x)).at σ H1 ρ1).add (ownA s y)).add (ownA r x)) σ H2 ρ2 := S2.weak fun a z => z.elim id fun z => .inl (.inr z)
        have kr : RvOk N (((((G.at σ H ρ).add (ownA r x)).at σ H1 ρ1).add (ownA s y)).add (ownA r x)).Mc σ H2 ρ2 r x := k1.weak (fun a z => z.elim id fun z => .inl (.inr z)) fun a z => .inr z
        obtain ⟨S3, q1⟩ := toSrc_ok Sr kr et1
        have m2 := toSrc_mu (σ := σ) et1
        have S3' : StOk N ((((G.at σ H ρ).add (ownA r x)).at σ H1 ρ1).add (ownA s y)) σ H2 ρ3 := S3.drop
        have ks : RvOk N ((((G.at σ H ρ).add (ownA r x)).at σ H1 ρ1).add (ownA s y)).Mc σ H2 ρ3 s y := RvOk.move (fun a o f e => ⟨⟨f.1, fun z => f.2 (m2 a z)⟩, e⟩) (fun a z => .inr z) k2
        obtain ⟨S4, q2⟩ := toSrc_ok S3' ks et2
        have q0 := SrcOk.weak (G' := ((((G.at σ H ρ).add (ownA r x)).at σ H1 ρ1).add (ownA s y)).add (ownA r x)) (Mc := ((((G.at σ H ρ).add (ownA r x)).at σ H1 ρ1).add (ownA s y)).Mc) (fun a z => Or.inl z) q1
        have q1' : SrcOk N ((((G.at σ H ρ).add (ownA r x)).at σ H1 ρ1).add (ownA s y)) σ H2 ρ4 d x := SrcOk.later (toSrc_mu et2) q0
        unfold zip2D at ez
        split at ez
        · cases ez
          obtain ⟨a, vs, rfl, ha, na, ra⟩ := src_items S4 q1' (xs := _) rfl
          obtain ⟨b, ws, rfl, hb, nb, rb⟩ := src_items S4 q2 (xs := _) rfl
          have ha : H2 a = some (.lst vs) := by
            rcases ha with ha | ha
            · exact ha
            · rcases q1' with ⟨_, _, e1, _, h1, _⟩ | ⟨_, e1, _, _, h1, _⟩ <;> (cases e1; rw [ha] at h1; cases h1)
          have hb : H2 b = some (.lst ws) := by
            rcases hb with hb | hb
            · exact hb
            · rcases q2 with ⟨_, _, e1, _, h1, _⟩ | ⟨_, e1, _, _, h1, _⟩ <;> (cases e1; rw [hb] at h1; cases h1)
          exact ⟨a, b, vs, ws, rfl, .inl ⟨.of ha, .of hb, h2.items S4 (feed_zipL ha hb na nb ra rb)⟩⟩
        · cases ez
          obtain ⟨a, vs, rfl, ha, na, ra⟩ := src_items S4 q1' (xs := _) rfl
          obtain ⟨b, ws, rfl, hb, nb, rb⟩ := src_items S4 q2 (xs := _) rfl
          have ha : H2 a = some (.tup vs) := by
            rcases ha with ha | ha
            · rcases q1' with ⟨_, _, e1, _, h1, _⟩ | ⟨_, e1, _, h1⟩
              · cases e1; rw [ha] at h1; cases h1
              · exact h1.elim
            · exact ha
          have hb : H2 b = some (.tup ws) := by
            rcases hb with hb | hb
            · rcases q2 with ⟨_, _, e1, _, h1, _⟩ | ⟨_, e1, _, h1⟩
              · cases e1; rw [hb] at h1; cases h1
              · exact h1.elim
            · exact hb
          exact ⟨a, b, vs, ws, rfl, .inr ⟨.of ha, .of hb, h2.items S4 (feed_zipT ha hb na nb ra rb)⟩⟩
        · cases ez
      · exact h2.elim
    · exact h2.elim
  · exact h2.elim
theorem feed_rev {K : PySem.W.Frag} {Fs Mz : Addr → Prop} {a : Addr} {vs : List V} {xs : List D} (hl : H a = some (.lst vs)) (hm : Mz a) (r : Reps N Fs H xs vs) : Feed N Fs Mz H xs.reverse (Itv K a vs.length) := fun H' hs => by
  have h' := hs a _ hl hm
  have hr := r.reverse
  refine ⟨fun i d e => ?_, fun i hi => by rw [List.length_reverse, r.length] at hi; exact hi⟩
  obtain ⟨v, ev, rv⟩ := hr.get e
  have hi : i < vs.length := by
    have := (List.getElem?_eq_some_iff.mp ev).1
    simpa using this
  rw [List.getElem?_reverse hi] at ev
  refine ⟨⟨hi, vs, v, .of h', ev⟩, fun x H'' ⟨e1, e2⟩ => ?_⟩
  subst e1
  have := e2 vs (.of h')
  rw [ev] at this; cases this
  exact ⟨Same.refl _, fun F' m _ => Rep.mon m _ _ rv⟩
theorem feed_revT {K : PySem.W.Frag} {Fs Mz : Addr → Prop} {a : Addr} {vs : List V} {xs : List D} (hl : H a = some (.tup vs)) (hm : Mz a) (r : Reps N Fs H xs vs) : Feed N Fs Mz H xs.reverse (RT.ItvT K a vs.length) := fun H' hs => by
  have h' := hs a _ hl hm
  have hr := r.reverse
  refine ⟨fun i d e => ?_, fun i hi => by rw [List.length_reverse, r.length] at hi; exact hi⟩
  obtain ⟨v, ev, rv⟩ := hr.get e
  have hi : i < vs.length := by
    have := (List.getElem?_eq_some_iff.mp ev).1
    simpa using this
  rw [List.getElem?_reverse hi] at ev
  refine ⟨⟨hi, vs, v, .of h', ev⟩, fun x H'' ⟨e1, e2⟩ => ?_⟩
  subst e1
  have := e2 vs (.of h')
  rw [ev] at this; cases this
  exact ⟨Same.refl _, fun F' m _ => Rep.mon m _ _ rv⟩
theorem di_rev {tg e : Expr} {p pos : Pos} {fe : Env → Out Rv} (hg : Gl X "reversed") (hm : X.mg "reversed" = none) (ne : notStar e = true) (he : PE X e (tE N W fe)) :
    PI X tg (.Call (.Name "reversed" p) [e] [] pos) (tI N W fun ρ => (fe ρ).bind fun r ρ => (match toSrc ρ r with
    | some (d, ρ) => (match itemsD d with | some xs => .ok xs.reverse ρ | none => .stuck)
    | none => .stuck)) := by
  refine ⟨fun pins s σ H R I ⟨G, ρ, S, h⟩ => (RT.pi_revA hg hm he (starEach_cons ne)).run pins s σ H R I (tK_then2 (L := kE N) S h fun r ρ1 v H1 S1 k1 fr1 h1 => ?_)⟩
  split at h1
  · rename_i d ρ2 et
    split at h1
    · rename_i xs ei
      obtain ⟨S2, k2⟩ := toSrc_ok (S.comp S1) (by exact k1) et
      obtain ⟨a, vs, ev, hv, nm, r⟩ := src_items S2 k2 ei
      have S3 : StOk N G σ H1 ρ2 := S2.drop
      have r3 : Reps N (Frz G.Mc σ ρ2) H1 xs vs := Reps.mon (frz_weak fun _ z => .inl z) _ _ r
      refine ⟨a, vs, ev, ?_⟩
      rcases hv with hv | hv
      · exact .inl ⟨.of hv, h1.items S3 (feed_rev hv nm r3)⟩
      · exact .inr ⟨.of hv, h1.items S3 (feed_revT hv nm r3)⟩
    · exact h1.elim
  · exact h1.elim
end
end Wf

/-! Wf: targets, list comprehensions -/
namespace Wf
open PySem PySem.Spec PyProof.Rows L2
/-- no more changes than at the slots vs -/
def Ag (vs : List Nat) (σ σ' : Sg) : Prop := σ'.length = σ.length ∧ ∀ i, i ∉ vs → σ'[i]? = σ[i]?
theorem Ag.refl {vs : List Nat} {σ : Sg} : Ag vs σ σ := ⟨rfl, fun _ _ => rfl⟩
theorem Ag.trans {vs ws : List Nat} {σ σ' σ'' : Sg} (a : Ag vs σ σ') (b : Ag ws σ' σ'') : Ag (vs ++ ws) σ σ'' :=
  ⟨b.1.trans a.1, fun i h => by rw [List.mem_append, not_or] at h; exact (b.2 i h.2).trans (a.2 i h.1)⟩
theorem wipe_in {σ : Sg} {i : Nat} : ∀ {vs : List Nat}, i ∈ vs → i < σ.length → (wipe σ vs)[i]? = some none
  | [], h, _ => by cases h
  | v :: vs, h, hl => by
    unfold wipe
    by_cases e : v = i
    · subst e
      rw [List.getElem?_set_self (by rw [wipe_length]; exact hl)]
    · rw [List.getElem?_set_ne e]
      exact wipe_in (by simpa [Ne.symm e] using h) hl
theorem wipe_ag {σ σ' : Sg} {vs : List Nat} (a : Ag vs (wipe σ vs) σ') : wipe σ' vs = wipe σ vs := by
  apply List.ext_getElem?
  intro i
  have hl : σ'.length = σ.length := by rw [a.1, wipe_length]
  by_cases hi : i ∈ vs
  · by_cases h : i < σ.length
    · rw [wipe_in hi (by rw [hl]; exact h), wipe_in hi h]
    · rw [List.getElem?_eq_none (by rw [wipe_length]; omega), List.getElem?_eq_none (by rw [wipe_length]; omega)]
  · rw [wipe_out hi, a.2 i hi]
theorem clear_len {ρ : Env} : ∀ {vs : List Nat}, (clear vs ρ).length = ρ.length
  | [] => rfl
  | v :: vs => by unfold clear; rw [List.length_set, clear_len]
section
variable {N : Nm} {G : Gh} {σ σ' : Sg} {H H' H1 : Hp} {ρ ρ' ρ1 : Env} {D : Addr} {vs : List Nat}
theorem StOk.wipe (S : StOk N G σ H ρ) : ∀ vs : List Nat, StOk N G (L2.wipe σ vs) H (clear vs ρ)
  | [] => S
  | v :: vs => (S.wipe vs).asgUn
theorem muts_clear {a : Addr} : ∀ {vs : List Nat}, muts (L2.wipe σ vs) (clear vs ρ) a → muts σ ρ a
  | [], h => h
  | v :: vs, h => by
    have h : muts ((L2.wipe σ vs).set v none) ((clear vs ρ).set v .un) a := h
    exact muts_clear ((muts_asg h).elim (fun z => nomatch z.1) id)
theorem restore_len {ρ0 : Env} : ∀ {vs : List Nat}, (restore ρ0 vs ρ).length = ρ.length
  | [] => rfl
  | v :: vs => by unfold restore; rw [List.length_set, restore_len]
theorem restore_in {ρ0 : Env} {i : Nat} : ∀ {vs : List Nat}, i ∈ vs → i < ρ.length → (restore ρ0 vs ρ)[i]? = some (ρ0.getD i .un)
  | [], h, _ => by cases h
  | v :: vs, h, hl => by
    unfold restore
    by_cases e : v = i
    · subst e
      rw [List.getElem?_set_self (by rw [restore_len]; exact hl)]
    · rw [List.getElem?_set_ne e]
      exact restore_in (by simpa [Ne.symm e] using h) hl
theorem restore_out {ρ0 : Env} {i : Nat} : ∀ {vs : List Nat}, i ∉ vs → (restore ρ0 vs ρ)[i]? = ρ[i]?
  | [], _ => rfl
  | v :: vs, h => by
    unfold restore
    rw [List.mem_cons, not_or] at h
    rw [List.getElem?_set_ne (Ne.symm h.1)]
    exact restore_out h.2
/-- behind the block: its slots hold what they held -/
theorem StOk.unwipe (S1 : StOk N G σ H1 ρ1) (hn : H1 D = none) (Sb : StOk N ((G.at σ H1 ρ1).add fun a => a = D) (L2.wipe σ vs) H ρ) (hv : vs.all (freeSlot ρ1) = true) : StOk N (G.add fun a => a = D) σ H (restore ρ1 vs ρ) ∧ ∀ a, muts σ (restore ρ1 vs ρ) a → muts (L2.wipe σ vs) ρ a := by
  have SC := S1.comp Sb
  have hl : ρ.length = ρ1.length := by rw [← Sb.len, wipe_length, S1.len]
  have free : ∀ i, i ∈ vs → i < ρ1.length → ∃ s, ρ1[i]? = some s ∧ s.mut = false ∧ (restore ρ1 vs ρ)[i]? = some s ∧ (s = .un ∨ ∃ d, s = .val d) := fun i hi hlt => by
    have e := List.all_eq_true.mp hv i hi
    have e2 : ρ1[i]? = some ρ1[i] := List.getElem?_eq_getElem hlt
    refine ⟨ρ1[i], e2, ?_, ?_, ?_⟩
    · unfold freeSlot at e; rw [e2] at e
      cases h : ρ1[i] <;> rw [h] at e <;> first | rfl | cases e
    · rw [restore_in hi (by rw [hl]; exact hlt), List.getD_eq_getElem?_getD, e2]; rfl
    · unfold freeSlot at e; rw [e2] at e
      cases h : ρ1[i] <;> rw [h] at e <;> first | exact .inl rfl | exact .inr ⟨_, rfl⟩ | cases e
  have back : ∀ i, isMut (restore ρ1 vs ρ) i → i ∉ vs ∧ isMut ρ i := fun i mi => by
    obtain ⟨s, es, ms⟩ := isMut_iff.mp mi
    have hlt : i < ρ1.length := by
      have := (List.getElem?_eq_some_iff.mp es).1
      rw [restore_len, hl] at this; exact this
    by_cases hi : i ∈ vs
    · obtain ⟨s', _, m', e', _⟩ := free i hi hlt
      rw [es] at e'; cases e'
      rw [ms] at m'; cases m'
    · refine ⟨hi, isMut_iff.mpr ⟨s, ?_, ms⟩⟩
      rw [← es, restore_out hi]
  have mu : ∀ a, muts σ (restore ρ1 vs ρ) a → muts (L2.wipe σ vs) ρ a := fun a ⟨i, ei, mi⟩ => ⟨i, by rw [wipe_out (back i mi).1]; exact ei, (back i mi).2⟩
  have mf : Mon (Frz (G.add fun a => a = D).Mc (L2.wipe σ vs) ρ) H (Frz (G.add fun a => a = D).Mc σ (restore ρ1 vs ρ)) H := fun a o f e => ⟨⟨f.1, fun z => f.2 (mu a z)⟩, e⟩
  have still := S1.still Sb (fun b z => .inl (by rw [show b = D from z]; exact hn))
  refine ⟨⟨by rw [restore_len, hl, S1.len], fun i s es => ?_, fun i j a h1 h2 m1 m2 => ?_, SC.mc, fun a z => SC.nmc a (mu a z), SC.fr, SC.dom, fun a z => SC.mu a (mu a z), fun a l => ⟨(SC.lk a l).1, fun z => (SC.lk a l).2 (mu a z)⟩, fun k d es => ?_⟩, mu⟩
  · have hlt : i < ρ1.length := by
      have := (List.getElem?_eq_some_iff.mp es).1
      rw [restore_len, hl] at this; exact this
    by_cases hi : i ∈ vs
    · obtain ⟨s', e1, _, e2, hs⟩ := free i hi hlt
      rw [es] at e2; cases e2
      obtain ⟨v, ev, k⟩ := S1.slot i s e1
      refine ⟨v, ev, ?_⟩
      rcases hs with rfl | ⟨d, rfl⟩
      · trivial
      · obtain ⟨x, ex, r⟩ := k
        exact ⟨x, ex, Rep.mon mf _ _ (Rep.mon still _ _ r)⟩
    · rw [restore_out hi] at es
      obtain ⟨v, ev, k⟩ := SC.slot i s es
      rw [wipe_out hi] at ev
      exact ⟨v, ev, k.mono mf (fun _ z => z) fun _ _ _ _ q => q⟩
  · obtain ⟨n1, m1⟩ := back i m1
    obtain ⟨n2, m2⟩ := back j m2
    exact SC.dist i j a (by rw [wipe_out n1]; exact h1) (by rw [wipe_out n2]; exact h2) m1 m2
  · have hk : k ∉ vs := (back k ⟨d, .inr es⟩).1
    rw [restore_out hk] at es
    obtain ⟨a, h1, h2⟩ := SC.io k d es
    exact ⟨a, h1, by rw [wipe_out hk] at h2; exact h2⟩
end

/-! ### targets -/
def tG (N : Nm) (tg : Tg) : TG := fun v σ H Q => ∃ G ρ d ρ', StOk N G σ H ρ ∧ Rep N (Frz G.Mc σ ρ) H d v ∧ bindT tg d ρ = some ρ' ∧ ∀ σ', StOk N G σ' H ρ' → Ag (slotsT tg) σ σ' → (∀ a, muts σ' ρ' a → muts σ ρ a) → Q σ' H
def tGs (N : Nm) (tg : Tg) : TGs := fun vs σ H Q => ∃ G ρ ds ρ', StOk N G σ H ρ ∧ Reps N (Frz G.Mc σ ρ) H ds vs ∧ bindT tg (.tup ds) ρ = some ρ' ∧ ∀ σ', StOk N G σ' H ρ' → Ag (slotsT tg) σ σ' → (∀ a, muts σ' ρ' a → muts σ ρ a) → Q σ' H
def lenT : Tg → Option Nat
  | .nil => some 0
  | .cons _ b => (lenT b).map (· + 1)
  | .name _ => none
theorem assignEach_cons {e : Expr} {es : List Expr} {env : PySem.Env} (h : notStar e = true) : assignEach (e :: es) env = (false, assign e env) :: assignEach es env := by
  cases e <;> first | rfl | cases h
theorem assignEach_len {env : PySem.Env} : ∀ {es : List Expr}, es.all notStar = true → (assignEach es env).length = es.length ∧ (assignEach es env).findIdx? (·.1) = none
  | [], _ => ⟨rfl, rfl⟩
  | e :: es, h => by
    rw [List.all_cons, Bool.and_eq_true] at h
    obtain ⟨h1, h2⟩ := assignEach_len (env := env) h.2
    rw [assignEach_cons h.1]
    exact ⟨by simp [h1], by simp [List.findIdx?_cons, h2]⟩
section
variable {X : Cx} {N : Nm} {pos : Pos}
theorem dg_name {i : Nat} {x : Str} (hN : X.N.Nodup) (hi : X.N[i]? = some x) (hx : Loc X.env.scope x) (hf : X.fn x = true ∨ X.env.scope.names.lookup x = some .local) : PG X (.Name x pos) (tG N (.name i)) := by
  refine ⟨fun pins s σ H v u Q I r ⟨G, ρ, d, ρ', S, rv, eb, hq⟩ => (pg_name hN hi hx hf).run pins s σ H v u Q I r ?_⟩
  have eb : asg i (.val d) ρ = some ρ' := eb
  refine hq _ (S.asgVal rv eb) ⟨by rw [List.length_set], fun j hj => ?_⟩ fun a z => ?_
  · have : i ≠ j := fun e => hj (by subst e; exact List.mem_singleton.mpr rfl)
    rw [List.getElem?_set_ne this]
  · obtain ⟨rfl, _, _⟩ := asg_some eb
    exact (muts_asg z).elim (fun z => nomatch z.1) id
theorem dgs_nil : PGs X [] (tGs N .nil) := by
  refine ⟨fun pins s σ H vs us Q I r ⟨G, ρ, ds, ρ', S, rv, eb, hq⟩ => pgs_nil.run pins s σ H vs us Q I r ?_⟩
  cases ds with
  | cons _ _ => cases eb
  | nil =>
    cases eb
    exact ⟨rv, hq σ S Ag.refl fun _ z => z⟩
theorem dgs_cons {e : Expr} {es : List Expr} {a b : Tg} (hn : notStar e = true) (h1 : PG X e (tG N a)) (h2 : PGs X es (tGs N b)) : PGs X (e :: es) (tGs N (.cons a b)) := by
  refine ⟨fun pins s σ H vs us Q I r ⟨G, ρ, ds, ρ', S, rv, eb, hq⟩ => (pgs_cons h1 h2 (by rw [assignEach_cons hn]; rfl)).run pins s σ H vs us Q I r ?_⟩
  cases ds with
  | nil => cases eb
  | cons d ds =>
    obtain ⟨v, w, ev, r1, r2⟩ := rv
    subst ev
    simp only [bindT] at eb
    cases e1 : bindT a d ρ with
    | none => rw [e1] at eb; cases eb
    | some ρ1 =>
      rw [e1] at eb
      refine ⟨v, w, rfl, G, ρ, d, ρ1, S, r1, e1, fun σ1 S1 ag1 mu1 => ⟨G, ρ1, ds, ρ', S1, Reps.mon (fun a o f e => ⟨⟨f.1, fun z => f.2 (mu1 a z)⟩, e⟩) _ _ r2, eb, fun σ2 S2 ag2 mu2 => hq σ2 S2 (ag1.trans ag2) fun a z => mu1 a (mu2 a z)⟩⟩
theorem bindT_len : ∀ {tg : Tg} {ds : List D} {ρ ρ' : Env} {n : Nat}, bindT tg (.tup ds) ρ = some ρ' → lenT tg = some n → ds.length = n
  | .name _, _, _, _, _, _, h => by cases h
  | .nil, [], _, _, _, _, h => by cases h; rfl
  | .nil, _ :: _, _, _, _, e, _ => by cases e
  | .cons a b, [], _, _, _, e, _ => by cases e
  | .cons a b, d :: ds, ρ, ρ', n, e, h => by
    simp only [bindT] at e
    simp only [lenT] at h
    cases e1 : bindT a d ρ with
    | none => rw [e1] at e; cases e
    | some ρ1 =>
      rw [e1] at e
      cases e2 : lenT b with
      | none => rw [e2] at h; cases h
      | some m =>
        rw [e2] at h; cases h
        simp [bindT_len (tg := b) (ds := ds) e e2]
theorem dg_tup {es : List Expr} {k : Nat} {tg : Tg} (hc : X.calm = true) (hst : es.all notStar = true) (hl : lenT tg = some es.length) (h : PGs X es (tGs N tg)) : PG X (.Tuple es k pos) (tG N tg) := by
  obtain ⟨h1, h2⟩ := assignEach_len (env := X.env) hst
  refine ⟨fun pins s σ H v u Q I r ⟨G, ρ, d, ρ', S, rv, eb, hq⟩ => (pg_tup hc h h1 h2).run pins s σ H v u Q I r ?_⟩
  have hd : ∃ ds, d = .tup ds := by
    cases tg with
    | name _ => cases hl
    | nil => cases d <;> first | exact ⟨_, rfl⟩ | (simp only [bindT] at eb; cases eb)
    | cons _ _ => cases d <;> first | exact ⟨_, rfl⟩ | (simp only [bindT] at eb; cases eb)
  obtain ⟨ds, rfl⟩ := hd
  obtain ⟨a, vs, ev, f, ha, rr⟩ := rv
  exact ⟨a, vs, ev, .of ha, by rw [← rr.length]; exact bindT_len eb hl, G, ρ, ds, ρ', S, rr, eb, hq⟩
end

/-! ### comprehensions -/
def noW : WX := fun _ _ _ _ => False
section
variable {X : Cx} {N : Nm} {W : WX} {G : Gh} {σ : Sg} {H : Hp} {ρ : Env}
theorem dts_none : PTs X [] (tT N W fun ρ => .ok true ρ) := ⟨fun pins s σ H Q I ⟨G, ρ, S, h⟩ => pts_nil.run pins s σ H Q I (h.tst S)⟩
theorem dts_one {c : Expr} {f : Env → Out Bool} (h : PT X c (tT N W f)) : PTs X [c] (tT N W f) := pts_one h
theorem StOk.acc {G' : Gh} {σ' : Sg} {ρ' : Env} {H' : Hp} {D : Addr} {o : HO} (S : StOk N G' σ' H' ρ') (hD : G'.Mc D) (hl : ¬ G'.Lk D) (h0 : G'.H0 D = none) : StOk N G' σ' (upd H' D o) ρ' :=
  S.outside (M := fun a => a = D) (fun b x e n => by rw [upd_ne n]; exact e) (fun b e => by
    by_cases z : b = D
    · subst z; rw [upd_same] at e; cases e
    · rw [upd_ne z] at e; exact e) fun b z => by rw [show b = D from z]; exact ⟨hD, hl, .inr h0⟩
/-- the comprehension's reading -/
theorem comp_read {fs : Env → Out (List D)} {ct : Env → Out Bool} {ev : Env → Out Rv} {tgc : Tg} {Q : VK}
    (h : tE N W (fun ρ => (fs ρ).bind fun items ρ0 => if (slotsT tgc).all (freeSlot ρ0) then (compLoop (bindT tgc) ct ev (slotsT tgc) items [] (clear (slotsT tgc) ρ0)).bind fun ds ρ => .ok (.own (.lst ds)) (restore ρ0 (slotsT tgc) ρ) else .stuck) σ H Q) :
    tLc (tI N W fs) (tG N tgc) (tT N noW ct) (tE N noW ev) (slotsT tgc) σ H Q := by
  obtain ⟨G, ρ, S, h⟩ := h
  refine tK_then2 (L := kI N) S h fun items ρ1 J H1 S1 k1 fr1 h1 => ?_
  have S1' : StOk N G σ H1 ρ1 := (S.comp S1).drop
  have k1' : Feed N (Frz G.Mc σ ρ1) (fun b => ¬ muts σ ρ1 b) H1 items J := (kI N).weak _ _ σ H1 ρ1 items J (fun x z => .inl z) (fun x z => z.elim) k1
  split at h1
  rotate_left
  · exact h1.elim
  rename_i hv
  generalize hvs : slotsT tgc = vs at h1 hv ⊢
  intro D hD
  have nm : ¬ muts σ ρ1 D := fun z => S1'.mutThere z hD
  -- the state in the block
  have Sn : StOk N ((G.at σ H1 ρ1).add fun a => a = D) σ (upd H1 D (.lst [])) ρ1 := S1'.at.owned hD (same_new hD) (by rw [upd_same]; simp)
  have DM : ((G.at σ H1 ρ1).add fun a => a = D).Mc D := .inr rfl
  have DL : ¬ ((G.at σ H1 ρ1).add fun a => a = D).Lk D := fun z => (S1'.lk D z).1 hD
  generalize hG1 : ((G.at σ H1 ρ1).add fun a => a = D) = G1 at Sn DM DL
  have G1H : G1.H0 = H1 := by rw [← hG1]; rfl
  let C : Hp → List Wf.D → Env → Prop := fun H acc ρ => StOk N G1 (wipe σ vs) H ρ ∧ ∃ avs, H D = some (.lst avs) ∧ Reps N (Frz G1.Mc (wipe σ vs) ρ) H acc avs
  let Fin : Out (List Wf.D) → Prop := fun o => OutOk (kE N) W G σ Q (o.bind fun ds ρ => .ok (.own (.lst ds)) (restore ρ1 vs ρ))
  have feed : ∀ {H2 : Hp} {ρ2 : Env}, StOk N G1 (wipe σ vs) H2 ρ2 → (∀ b o, H1 b = some o → ¬ muts σ ρ1 b → H2 b = some o) := fun {H2 ρ2} S2 b o e n => S2.fr b o (by rw [G1H]; exact e) (by rw [← hG1]; exact n)
  refine ⟨fun i m H => m = items.length - i ∧ ∃ ρ acc, C H acc ρ ∧ Fin (compLoop (bindT tgc) ct ev vs (items.drop i) acc ρ), ⟨items.length, rfl, clear vs ρ1, [], ⟨Sn.wipe vs, [], upd_same, rfl⟩, by rw [List.drop_zero]; exact h1⟩, ?_⟩
  rintro i m H2 ⟨em, ρ2, acc, ⟨S2, avs, hD2, ra⟩, fin⟩
  obtain ⟨f1, f2⟩ := k1' H2 (feed S2)
  by_cases hi : items.length ≤ i
  · -- the end
    refine .inl ⟨f2 i hi, ?_⟩
    rw [List.drop_eq_nil_of_le hi] at fin
    have S2' : StOk N ((G.at σ H1 ρ1).add fun a => a = D) (wipe σ vs) H2 ρ2 := by rw [hG1]; exact S2
    obtain ⟨S3, mu⟩ := S1'.unwipe hD S2' hv
    have S3' : StOk N (G.add (ownA (.own (.lst acc)) (.ref D))) σ H2 (restore ρ1 vs ρ2) := S3.weak fun a z => z.imp id fun z => by cases z; rfl
    refine fin (.ref D) H2 S3' ⟨D, rfl, .inr rfl, avs, hD2, ?_⟩ fun a z => ?_
    · refine Reps.mon (fun a o f e => ⟨⟨fun z => f.1 ?_, fun z => f.2 (mu a z)⟩, e⟩) _ _ ra
      rw [← hG1]
      exact z.imp id fun z => by cases z; rfl
    · cases z
      exact ⟨.inl (S1'.dom D hD), fun z => S1'.mc D z hD, fun z => (S1'.lk D z).1 hD⟩
  · -- one turn
    have hi : i < items.length := Nat.lt_of_not_le hi
    have ei : items[i]? = some items[i] := List.getElem?_eq_getElem hi
    obtain ⟨go, yl⟩ := f1 i _ ei
    refine .inr ⟨go, fun H' => ∃ ρ acc, C H' acc ρ ∧ Fin (compLoop (bindT tgc) ct ev vs (items.drop (i + 1)) acc ρ), fun H' h => ⟨items.length - (i + 1), by omega, rfl, h⟩, fun x H3 hy => ?_⟩
    obtain ⟨sm, rx⟩ := yl x H3 hy
    have S3 := S2.grow sm
    have hD3 := sm D _ hD2
    have ra3 : Reps N (Frz G1.Mc (wipe σ vs) ρ2) H3 acc avs := ra.same sm
    have rx3 : Rep N (Frz G1.Mc (wipe σ vs) ρ2) H3 items[i] x := by
      refine rx _ ?_ fun a e => S2.fresh e
      have S3' : StOk N ((G.at σ H1 ρ1).add fun a => a = D) (wipe σ vs) H3 ρ2 := by rw [hG1]; exact S3
      have := S1'.still S3' (fun b z => .inl (by rw [show b = D from z]; exact hD))
      refine fun a o f e => ?_
      obtain ⟨q1, q2⟩ := this a o f e
      refine ⟨⟨fun z => q1.1 ?_, q1.2⟩, q2⟩
      rw [← hG1] at z
      exact z
    rw [List.drop_eq_getElem_cons hi] at fin
    simp only [compLoop] at fin
    cases eb : bindT tgc items[i] ρ2 with
    | none => rw [eb] at fin; exact fin.elim
    | some ρ3 =>
      rw [eb] at fin
      refine ⟨G1, ρ2, items[i], ρ3, S3, rx3, eb, fun σ4 S4 ag mu => ?_⟩
      rw [hvs] at ag
      have ew := wipe_ag ag
      refine ⟨ew, ?_⟩
      have ra4 : Reps N (Frz G1.Mc σ4 ρ3) H3 acc avs := Reps.mon (fun a o f e => ⟨⟨f.1, fun z => f.2 (mu a z)⟩, e⟩) _ _ ra3
      refine ⟨G1.at σ4 H3 ρ3, ρ3, S4.at, ?_⟩
      dsimp only at fin
      cases ec : ct ρ3 with
      | stuck => rw [ec] at fin; exact fin.elim
      | exc e ρ' => rw [ec] at fin; exact fin.elim
      | ok c ρ5 =>
        rw [ec] at fin
        intro c' H5 S5 k5 fr5
        cases (show c = c' from k5)
        have S5' : StOk N G1 σ4 H5 ρ5 := (S4.comp S5).drop
        have hD5 : H5 D = some (.lst avs) := S5.fr D _ hD3 fun z => S4.nmc D z DM
        have ra5 : Reps N (Frz G1.Mc σ4 ρ5) H5 acc avs := Reps.mon (fun a o f e => ⟨⟨fun z => (S4.still S5 (fun b z => z.elim) a o f e).1.1 (.inl z), (S4.still S5 (fun b z => z.elim) a o f e).1.2⟩, (S4.still S5 (fun b z => z.elim) a o f e).2⟩) _ _ ra4
        cases c with
        | false =>
          refine iteF ?_
          refine ⟨clear vs ρ5, acc, ⟨by rw [← ew]; exact S5'.wipe vs, avs, hD5, ?_⟩, fin⟩
          rw [← ew]
          exact Reps.mon (fun a o f e => ⟨⟨f.1, fun z => f.2 (muts_clear z)⟩, e⟩) _ _ ra5
        | true =>
          refine iteT ?_
          refine ⟨G1.at σ4 H5 ρ5, ρ5, S5'.at, ?_⟩
          have fin : Fin ((ev ρ5).noex.bind fun r ρ => (match toVal ρ r with
            | some (d, ρ) => if decide (acc.length < sizeLine) then compLoop (bindT tgc) ct ev vs (items.drop (i + 1)) (acc ++ [d]) (clear vs ρ) else .stuck
            | none => .stuck)) := fin
          cases ee : ev ρ5 with
          | stuck => rw [ee] at fin; exact fin.elim
          | exc e ρ' => rw [ee] at fin; exact fin.elim
          | ok r ρ6 =>
            rw [ee] at fin
            intro y H6 S6 k6 fr6
            have fin : Fin (match toVal ρ6 r with
              | some (d, ρ) => if decide (acc.length < sizeLine) then compLoop (bindT tgc) ct ev vs (items.drop (i + 1)) (acc ++ [d]) (clear vs ρ) else .stuck
              | none => .stuck) := fin
            split at fin
            rotate_left
            · exact fin.elim
            rename_i d ρ7 et
            split at fin
            rotate_left
            · exact fin.elim
            rename_i hz
            obtain ⟨S7, r7⟩ := toVal_ok (S5'.comp S6) (by exact k6) (Fresh.back0 S5' fr6) et
            have hD6 : H6 D = some (.lst avs) := S6.fr D _ hD5 fun z => S5'.nmc D z DM
            have m67 : Mon (Frz G1.Mc σ4 ρ5) H5 (Frz G1.Mc σ4 ρ7) H6 := fun a o f e => by
              have q := S5'.still S6 (fun b z => (fr6 b z).1) a o f e
              refine ⟨⟨fun z => q.1.1 (.inl z), fun z => q.1.2 ?_⟩, q.2⟩
              exact toVal_mu et a z
            have S8 : StOk N G1 σ4 (upd H6 D (.lst (avs ++ [y]))) ρ7 := S7.acc DM DL (by rw [G1H]; exact hD)
            have mU : Mon (Frz G1.Mc σ4 ρ7) H6 (Frz G1.Mc σ4 ρ7) (upd H6 D (.lst (avs ++ [y]))) := fun a o f e => ⟨f, by rw [upd_ne fun z => f.1 (by rw [z]; exact DM)]; exact e⟩
            refine ⟨avs, hD6, by rw [← ra.length]; exact of_decide_eq_true hz, clear vs ρ7, acc ++ [d], ⟨by rw [← ew]; exact S8.wipe vs, avs ++ [y], upd_same, ?_⟩, fin⟩
            rw [← ew]
            refine Reps.mon (fun a o f e => ⟨⟨f.1, fun z => f.2 (muts_clear z)⟩, e⟩) _ _ (Reps.append (Reps.mon mU _ _ (Reps.mon m67 _ _ ra5)) (.one (Rep.mon mU _ _ r7)))
def notSetE : Expr → Bool
  | .Set .. => false
  | _ => true
theorem folded_plain {iter : Expr} {env : PySem.Env} (h : notSetE iter = true) : ∀ x, foldedSetIterable iter env x = pure x := by
  intro x
  cases iter <;> first | rfl | cases h
theorem de_comp {elt tg iter : Expr} {ifs : List Expr} {scope : Scope} {own : List (Str × Nat)} {pos : Pos} {tgc : Tg} {fs : Env → Out (List D)} {ct : Env → Out Bool} {ev : Env → Out Rv} (hc : X.calm = true) (hN : X.N.Nodup) (hi : PI X tg iter (tI N W fs)) (ok : BlkOk X.N X.env.scope scope own) (ho : own.map (·.2) = slotsT tgc)
    (hg : ∀ (s : Shared) (H : Hp) (C : Addr) (cl : List (Str × Addr)) (fp : List Addr), PG (X.blk s H scope (compEnvC scope cl C X.env) fp) tg (tG N tgc)) (ht : ∀ (s : Shared) (H : Hp) (C : Addr) (cl : List (Str × Addr)) (fp : List Addr), PTs (X.blk s H scope (compEnvC scope cl C X.env) fp) ifs (tT N noW ct))
    (he : ∀ (s : Shared) (H : Hp) (C : Addr) (cl : List (Str × Addr)) (fp : List Addr), PE (X.blk s H scope (compEnvC scope cl C X.env) fp) elt (tE N noW ev)) (hs : notSetE iter = true) :
    PE X (.ListComp elt [⟨tg, iter, ifs, 0⟩] scope pos) (tE N W fun ρ => (fs ρ).bind fun items ρ0 => if (slotsT tgc).all (freeSlot ρ0) then (compLoop (bindT tgc) ct ev (slotsT tgc) items [] (clear (slotsT tgc) ρ0)).bind fun ds ρ => .ok (.own (.lst ds)) (restore ρ0 (slotsT tgc) ρ) else .stuck) :=
  ⟨fun pins s σ H Q I h => (pe_lc hc hN hi ok hg ht he (folded_plain hs)).run pins s σ H Q I (by rw [ho]; exact comp_read h)⟩
end
end Wf

/-! Wf: statements -/
namespace Wf
open PySem PySem.Spec PyProof.Rows L2
def SOutOk (N : Nm) (W : WX) (G : Gh) (E : Ends) : SOut → Prop
  | .nx ρ => ∀ σ H, StOk N G σ H ρ → E.nx σ H
  | .bk ρ => ∀ σ H, StOk N G σ H ρ → E.bk σ H
  | .ct ρ => ∀ σ H, StOk N G σ H ρ → E.ct σ H
  | .rt (.bor _) _ => False
  | .rt r ρ => ∀ v σ H, StOk N (G.add (ownA r v)) σ H ρ → RvOk N (G.add (ownA r v)).Mc σ H ρ r v → Fresh G (ownA r v) → E.rt v H
  | .exc x ρ => ∀ cls dd σ H, StOk N G σ H ρ → XOk N (Frz G.Mc σ ρ) H x cls dd → W cls dd σ H
  | .stuck => False
def tS (N : Nm) (W : WX) (f : Env → SOut) : TS := fun E σ H => ∃ G ρ, StOk N G σ H ρ ∧ SOutOk N W G E (f ρ)
section
variable {X : Cx} {N : Nm} {W : WX} {G : Gh} {σ : Sg} {H : Hp} {ρ : Env} {E E' : Ends} {pos : Pos}
theorem st_then {α β : Type} {K : Kit N α β} {o : Out α} {k : α → Env → SOut} {R : β → Hp → Prop} (h : SOutOk N W G E (o.st k))
    (next : ∀ r ρ' v H', StOk N (G.add (K.own r v)) σ H' ρ' → K.ok (G.add (K.own r v)).Mc σ H' ρ' r v → Fresh G (K.own r v) → SOutOk N W G E (k r ρ') → R v H') : OutOk K W G σ R o := by
  cases o with
  | stuck => exact h
  | exc x ρ' => exact fun cls dd H' S' X' => h cls dd σ H' S' X'
  | ok r ρ' => exact fun v H' S' k' fr' => next r ρ' v H' S' k' fr' h
theorem SOutOk.shift (S : StOk N G σ H ρ) {o : SOut} (h : SOutOk N W G E o) : SOutOk N W (G.at σ H ρ) E o := by
  cases o with
  | stuck => exact h
  | nx ρ' => exact fun σ' H' S' => h σ' H' (S.comp0 S')
  | bk ρ' => exact fun σ' H' S' => h σ' H' (S.comp0 S')
  | ct ρ' => exact fun σ' H' S' => h σ' H' (S.comp0 S')
  | exc x ρ' => exact fun cls dd σ' H' S' X' => h cls dd σ' H' (S.comp0 S') X'
  | rt r ρ' =>
    cases r with
    | bor i => exact h
    | val d => exact fun v σ' H' S' k fr => h v σ' H' (S.comp S') k (Fresh.back0 S fr)
    | own d => exact fun v σ' H' S' k fr => h v σ' H' (S.comp S') k (Fresh.back0 S fr)
/-! ### blocks -/
theorem ds_nil : PSs X [] (tS N W fun ρ => .nx ρ) := ⟨fun pins s σ H E I ⟨G, ρ, S, h⟩ => pss_nil.run pins s σ H E I (h σ H S)⟩
theorem ds_cons {st : Stmt} {rest : List Stmt} {f g : Env → SOut} (h1 : PS X st (tS N W f)) (h2 : PSs X rest (tS N W g)) : PSs X (st :: rest) (tS N W fun ρ => (match f ρ with | .nx ρ => g ρ | o => o)) := by
  refine ⟨fun pins s σ H E I ⟨G, ρ, S, h⟩ => (pss_cons h1 h2).run pins s σ H E I ⟨G, ρ, S, ?_⟩⟩
  dsimp only at h
  cases e : f ρ with
  | nx ρ' => rw [e] at h; exact fun σ' H' S' => ⟨G, ρ', S', h⟩
  | stuck => rw [e] at h; exact h
  | bk ρ' => rw [e] at h; exact h
  | ct ρ' => rw [e] at h; exact h
  | exc x ρ' => rw [e] at h; exact h
  | rt r ρ' =>
    rw [e] at h
    cases r with
    | bor i => exact h
    | val d => exact h
    | own d => exact h
/-! ### small statements -/
theorem ds_never {st : Stmt} : PS X st (tS N W fun _ => .stuck) := ⟨fun pins s σ H E I ⟨G, ρ, S, h⟩ => h.elim⟩
theorem ds_pass : PS X (.Pass pos) (tS N W fun ρ => .nx ρ) := ⟨fun pins s σ H E I ⟨G, ρ, S, h⟩ => ps_pass.run pins s σ H E I (h σ H S)⟩
theorem ds_break : PS X (.Break pos) (tS N W fun ρ => .bk ρ) := ⟨fun pins s σ H E I ⟨G, ρ, S, h⟩ => ps_break.run pins s σ H E I (h σ H S)⟩
theorem ds_continue : PS X (.Continue pos) (tS N W fun ρ => .ct ρ) := ⟨fun pins s σ H E I ⟨G, ρ, S, h⟩ => ps_continue.run pins s σ H E I (h σ H S)⟩
theorem ds_doc {x : Str} {j : Nat} {pos' : Pos} : PS X (.Expr (.Constant (.str x) j pos) pos') (tS N W fun ρ => .nx ρ) := ⟨fun pins s σ H E I ⟨G, ρ, S, h⟩ => ps_doc.run pins s σ H E I (h σ H S)⟩
def plainV : Expr → Bool
  | .ListComp .. => false
  | .SetComp .. => false
  | .DictComp .. => false
  | _ => true
theorem swaps_plain {e : Expr} {t : Option Expr} {l : Nat} {env : PySem.Env} (h : plainV e = true) : swapsWith e t l env = pure false := by
  cases e <;> first | rfl | cases h
theorem sole_plain {e t : Expr} {l : Nat} {env : PySem.Env} (h : plainV e = true) : swapsWithSole [t] e l env = pure false := by
  have : swapsWithSole [t] e l env = swapsWith e (some t) l env := by rfl
  rw [this]; exact swaps_plain h
theorem ds_expr {e : Expr} {f : Env → Out Rv} (hv : plainV e = true) (he : PE X e (tE N W f)) : PS X (.Expr e pos) (tS N W fun ρ => (f ρ).st fun _ ρ => .nx ρ) :=
  ⟨fun pins s σ H E I ⟨G, ρ, S, h⟩ => (ps_expr he (swaps_plain hv)).run pins s σ H E I ⟨G, ρ, S, st_then (K := kE N) h fun r ρ' v H' S' k' fr' h' => h' σ H' S'.drop⟩⟩
/-- what is handed back -/
theorem ret_ok {r : Rv} {v : V} (S : StOk N (G.add (ownA r v)) σ H ρ) (k : RvOk N (G.add (ownA r v)).Mc σ H ρ r v) (fr : Fresh G (ownA r v)) (h : SOutOk N W G E (retR ρ r)) : E.rt v H := by
  cases r with
  | val d => exact h v σ H S k fr
  | own d => exact h v σ H S k fr
  | bor i =>
    have S' : StOk N G σ H ρ := S.drop
    have Sn : ∀ ρ, StOk N G σ H ρ → StOk N (G.add noA) σ H ρ := fun ρ S => by rw [Gh.add_no]; exact S
    have k : σ[i]? = some (some v) := k
    simp only [retR] at h
    split at h
    · rename_i d q
      obtain ⟨w, ew, x, ex, r⟩ := S'.slot i _ q
      rw [k] at ew; cases ew; cases ex
      refine h v σ H (Sn _ S') ?_ Fresh.no
      exact Rep.mon (frz_weak fun _ z => z.elim id fun z => z.elim) _ _ r
    · rename_i d q
      obtain ⟨w, ew, a, ex, o⟩ := S'.slot i _ q
      rw [k] at ew; cases ew; cases ex
      have eo : ownAt ρ i = some (d, .own) := by unfold ownAt; rw [q]
      obtain ⟨S2, o2, ma⟩ := S'.takeOut eo k
      have im : ∀ b, ownA (.own d) (.ref a) b → b = a := fun b z => by cases z; rfl
      refine h (.ref a) σ H (S2.weak fun b z => z.imp id (im b)) ⟨a, rfl, .inr rfl, o2.mon (frz_weak fun b z => z.imp id (im b)) fun _ z => z⟩ fun b z => ?_
      cases z
      exact ⟨(S'.mu a ma).symm, S'.nmc a ma, fun z => (S'.lk a z).2 ma⟩
    · rename_i d q
      split at h
      · rename_i fl
        obtain ⟨w, ew, x, ex, r⟩ := S'.slot i _ q
        rw [k] at ew; cases ew; cases ex
        refine h v σ H (Sn _ S') ?_ Fresh.no
        rcases r with r | ⟨a, ea, _, r⟩
        · exact flat_any fl r
        · exact flat_rd fl (.inr ⟨a, ea, r⟩)
      · exact h.elim
    · exact h.elim
theorem ds_ret {e : Expr} {f : Env → Out Rv} (he : PE X e (tE N W f)) : PS X (.Return (some e) pos) (tS N W fun ρ => (f ρ).st fun r ρ => retR ρ r) :=
  ⟨fun pins s σ H E I ⟨G, ρ, S, h⟩ => (ps_ret he).run pins s σ H E I ⟨G, ρ, S, st_then (K := kE N) h fun r ρ' v H' S' k' fr' h' => ret_ok S' k' fr' h'⟩⟩
theorem ds_retN : PS X (.Return none pos) (tS N W fun ρ => .rt (.val .non) ρ) :=
  ⟨fun pins s σ H E I ⟨G, ρ, S, h⟩ => ps_retN.run pins s σ H E I (h .non σ H (by show StOk N (G.add noA) σ H ρ; rw [Gh.add_no]; exact S) rfl Fresh.no)⟩
theorem ds_if {c : Expr} {a b : List Stmt} {fc : Env → Out Bool} {fa fb : Env → SOut} (hc : PT X c (tT N W fc)) (ha : PSs X a (tS N W fa)) (hb : PSs X b (tS N W fb)) :
    PS X (.If c a b pos) (tS N W fun ρ => (fc ρ).st fun k ρ => if k then fa ρ else fb ρ) := by
  refine ⟨fun pins s σ H E I ⟨G, ρ, S, h⟩ => (ps_if hc ha hb).run pins s σ H E I ⟨G, ρ, S, st_then (K := kT N) h fun r ρ' v H' S' k' fr' h' => ?_⟩⟩
  cases (show r = v from k')
  have S2 : StOk N G σ H' ρ' := S'.drop
  cases r with
  | true => exact iteT ⟨G, ρ', S2, h'⟩
  | false => exact iteF ⟨G, ρ', S2, h'⟩
/-! ### assignments -/
theorem set_read {i : Nat} {f : Env → Out Rv} (h : tS N W (fun ρ => (f ρ).st fun r ρ => (match toVal ρ r with
    | some (d, ρ) => (match asg i (.val d) ρ with | some ρ => .nx ρ | none => .stuck)
    | none => .stuck)) E σ H) : tAsg (tE N W f) (gName i) E σ H := by
  obtain ⟨G, ρ, S, h⟩ := h
  refine ⟨G, ρ, S, st_then (K := kE N) h fun r ρ' v H' S' k' fr' h' => ?_⟩
  split at h'
  · rename_i d ρ2 et
    obtain ⟨S2, r2⟩ := toVal_ok S' k' fr' et
    split at h'
    · rename_i ρ3 ea
      exact h' _ _ (S2.asgVal r2 ea)
    · exact h'.elim
  · exact h'.elim
theorem hold_read {i : Nat} {f : Env → Out Rv} (h : tS N W (fun ρ => (f ρ).st fun r ρ => (match r with
    | .own d => (match asg i (.own d) ρ with | some ρ => .nx ρ | none => .stuck)
    | .val d => (match asg i (.val d) ρ with | some ρ => .nx ρ | none => .stuck)
    | .bor _ => .stuck)) E σ H) : tAsg (tE N W f) (gName i) E σ H := by
  obtain ⟨G, ρ, S, h⟩ := h
  refine ⟨G, ρ, S, st_then (K := kE N) h fun r ρ' v H' S' k' fr' h' => ?_⟩
  split at h'
  · rename_i d
    split at h'
    · rename_i ρ3 ea
      obtain ⟨p, ev, mp, o⟩ := id k'
      subst ev
      exact h' _ _ (StOk.asgOwn S' o fr' ea)
    · exact h'.elim
  · rename_i d
    split at h'
    · rename_i ρ3 ea
      exact h' _ _ (S'.drop.asgVal (Rep.mon (frz_weak fun _ z => .inl z) _ _ k') ea)
    · exact h'.elim
  · exact h'.elim
theorem ds_set {i : Nat} {x : Str} {e : Expr} {pos' : Pos} {f : Env → Out Rv} (hN : X.N.Nodup) (hi : X.N[i]? = some x) (hx : Loc X.env.scope x) (hf : X.fn x = true ∨ X.env.scope.names.lookup x = some .local) (hv : plainV e = true) (he : PE X e (tE N W f)) :
    PS X (.Assign [.Name x pos'] e pos) (tS N W fun ρ => (f ρ).st fun r ρ => (match toVal ρ r with
    | some (d, ρ) => (match asg i (.val d) ρ with | some ρ => .nx ρ | none => .stuck)
    | none => .stuck)) :=
  ⟨fun pins s σ H E I h => (ps_set hN hi hx he (swaps_plain hv) hf).run pins s σ H E I (set_read h)⟩
/-- o[k] = e -/
theorem ds_setsub {i : Nat} {x : Str} {k e : Expr} {px ps : Pos} {fk fe : Env → Out Rv} (hN : X.N[i]? = some x) (hv : Vis X.env.scope x) (hd : (x == ("__debug__" : Str)) = false) (hcd : (x == ("__classdict__" : Str)) = false)
    (hpv : plainV e = true) (hk : PE X k (tE N W fk)) (he : PE X e (tE N W fe))
    (ha : ∀ v, assign (.Subscript (.Name x px) k ps) X.env v = (do
      let ov ← holding [v] (eval (.Name x px) X.env)
      let iv ← holding [v, ov] (eval k X.env)
      standAt ps
      holding [v, ov, iv] (setItem ov iv v)
      release [v, ov, iv] [])) :
    PS X (.Assign [.Subscript (.Name x px) k ps] e pos) (tS N W fun ρ => (fe ρ).st fun r ρ => if isLst ρ i then (fk ρ).st fun s ρ => (match toVal ρ r with
    | some (d, ρ) => (match rdc ρ s, ownAt ρ i with
      | some (.int j), some (.lst xs, c) => (match ixN xs.length j with
        | some n => .nx (ρ.set i (c (.lst (xs.set n d))))
        | none => .stuck)
      | _, _ => .stuck)
    | none => .stuck) else .stuck) := by
  have hsw : swappedStores [.Subscript (.Name x px) k ps] e X.env = pure none := rfl
  refine ⟨fun pins s σ H E I ⟨G, ρ, S, h⟩ => (ps_asg he (pg_sub (pe_var hN hv hd hcd) hk set_list ha) (sole_plain hpv) hsw (by rfl)).run pins s σ H E I ⟨G, ρ, S, st_then (K := kE N) h fun r ρ1 v H1 S1 k1 fr1 h1 => ?_⟩⟩
  split at h1
  · rename_i hi
    obtain ⟨xs0, c0, eo⟩ := isLst_some hi
    obtain ⟨a, ea, _, _⟩ := S1.at_own eo
    -- the index
    refine ⟨.ref a, ea, (G.add (ownA r v)).at σ H1 ρ1, ρ1, S1.at, ?_⟩
    cases ek : fk ρ1 with
    | stuck => rw [ek] at h1; exact h1.elim
    | exc e ρ' =>
      rw [ek] at h1
      intro cls dd H' S' X'
      exact h1 cls dd σ H' (S1.comp0 S').drop (X'.mon (frz_weak fun _ z => .inl z))
    | ok s ρ2 =>
      rw [ek] at h1
      intro w H2 S2 k2 fr2
      have h1 : SOutOk N W G E (match toVal ρ2 r with
        | some (d, ρ) => (match rdc ρ s, ownAt ρ i with
          | some (.int j), some (.lst xs, c) => (match ixN xs.length j with
            | some n => .nx (ρ.set i (c (.lst (xs.set n d))))
            | none => .stuck)
          | _, _ => .stuck)
        | none => .stuck) := h1
      split at h1
      rotate_left
      · exact h1.elim
      rename_i d ρ3 et
      have k1' := RvOk.later S1 S2 fr2 k1
      have SS : StOk N (G.add (ownA r v)) σ H2 ρ2 := (S1.comp S2).drop
      have kk : RvOk N (G.add (ownA r v)).Mc σ H2 ρ2 r v := by
        refine RvOk.weak (fun a z => .inl z) (fun a z => .inr z) k1'
      obtain ⟨S3, r3⟩ := toVal_ok SS kk fr1 et
      split at h1
      rotate_left
      · exact h1.elim
      rename_i j xs c ej eo3
      have mu3 := toVal_mu (σ := σ) et
      have k3 : RvOk N (((G.add (ownA r v)).at σ H1 ρ1).add (ownA s w)).Mc σ H2 ρ3 s w := RvOk.move (fun a o f e => ⟨⟨f.1, fun z => f.2 (mu3 a z)⟩, e⟩) (fun a z => .inr z) k2
      -- the index is an int, whatever owns it
      have ew : w = .int j := by
        cases s with
        | val d' => cases ej; exact k3
        | own d' => cases ej; obtain ⟨_, _, _, o⟩ := k3; exact o.elim
        | bor i' =>
          have k3 : σ[i']? = some (some w) := k3
          exact (RvOk.rd (r := .bor i') S3 k3 ej).int
      subst ew
      split at h1
      rotate_left
      · exact h1.elim
      rename_i n en
      obtain ⟨a3, ea3, o3, ma3⟩ := S3.at_own eo3
      rw [ea] at ea3; cases ea3
      obtain ⟨vs, hvs, rvs⟩ := o3
      refine ⟨a, vs, j, n, rfl, rfl, hvs, by rw [← rvs.length]; exact en, ?_⟩
      have mm : Mon (Frz G.Mc σ ρ3) H2 (Frz G.Mc σ ρ3) (upd H2 a (.lst (vs.set n v))) := fun b o f e => ⟨f, by
        rw [upd_ne (fun z => f.2 (by subst z; exact ma3))]; exact e⟩
      exact h1 σ _ (S3.write (d' := .lst (xs.set n d)) eo3 ea ⟨vs.set n v, upd_same, Reps.set n (Reps.mon mm _ _ rvs) (Rep.mon mm _ _ r3)⟩)
  · exact h1.elim
/-- o.f = e -/
theorem ds_setatt {T : Tab} {i f : Nat} {x : Str} {e : Expr} {px pa : Pos} {fe : Env → Out Rv} (hNm : NmOk N) (hN : X.N[i]? = some x) (hv : Vis X.env.scope x) (hd : (x == ("__debug__" : Str)) = false) (hcd : (x == ("__classdict__" : Str)) = false)
    (hA : ∀ C Ca, N.cls C = some Ca → (T.flds C).contains f = true → Cls X.K Ca ∧ NoAttr X.K Ca (N.fld f)) (hpv : plainV e = true) (he : PE X e (tE N W fe)) :
    PS X (.Assign [.Attribute (.Name x px) (N.fld f) pa] e pos) (tS N W fun ρ => (fe ρ).st fun r ρ => (match toVal ρ r with
    | some (d, ρ) => (match ownAt ρ i with
      | some (.ins C fs, c) => if decide (fs.length < 1000) && (T.flds C).contains f then .nx (ρ.set i (c (.ins C (putD f d fs)))) else .stuck
      | _ => .stuck)
    | none => .stuck)) := by
  refine ⟨fun pins s σ H E I ⟨G, ρ, S, h⟩ => (ps_fld (pe_var hN hv hd hcd) he (swaps_plain hpv)).run pins s σ H E I ⟨G, ρ, S, st_then (K := kE N) h fun r ρ1 v H1 S1 k1 fr1 h1 => ?_⟩⟩
  split at h1
  rotate_left
  · exact h1.elim
  rename_i d ρ2 et
  obtain ⟨S2, r2⟩ := toVal_ok S1 k1 fr1 et
  split at h1
  rotate_left
  · exact h1.elim
  rename_i C fs c eo
  split at h1
  rotate_left
  · exact h1.elim
  rename_i hb
  rw [Bool.and_eq_true] at hb
  have hl := of_decide_eq_true hb.1
  obtain ⟨a, ea, o, ma⟩ := S2.at_own eo
  obtain ⟨Ca, dx, vs, ec, ha, rf⟩ := o
  obtain ⟨c1, c2⟩ := hA C Ca ec hb.2
  refine ⟨.ref a, ea, a, Ca, dx, vs, rfl, ha, c1, c2, by rw [rf.length]; exact hl, ?_⟩
  have mm : Mon (Frz G.Mc σ ρ2) H1 (Frz G.Mc σ ρ2) (upd H1 a (.ins Ca dx (putF (N.fld f) v vs))) := fun b o f e => ⟨f, by
    rw [upd_ne (fun z => f.2 (by subst z; exact ma))]; exact e⟩
  exact h1 σ _ (S2.write (d' := .ins C (putD f d fs)) eo ea ⟨Ca, dx, _, ec, upd_same, RepF.put hNm (Rep.mon mm _ _ r2) (RepF.mon mm _ _ rf)⟩)
/-- a, (b, c) = e, e no display -/
theorem ds_unpack {tg e : Expr} {tgc : Tg} {fe : Env → Out Rv} (hg : PG X tg (tG N tgc)) (nt : notStar tg = true) (hpv : plainV e = true) (hw : swappedStores [tg] e X.env = pure none) (he : PE X e (tE N W fe)) :
    PS X (.Assign [tg] e pos) (tS N W fun ρ => (fe ρ).st fun r ρ => (match toVal ρ r with
    | some (d, ρ) => (match bindT tgc d ρ with | some ρ => .nx ρ | none => .stuck)
    | none => .stuck)) := by
  refine ⟨fun pins s σ H E I ⟨G, ρ, S, h⟩ => (ps_asg he hg (sole_plain hpv) hw (by rw [assignEach_cons nt]; rfl)).run pins s σ H E I ⟨G, ρ, S, st_then (K := kE N) h fun r ρ1 v H1 S1 k1 fr1 h1 => ?_⟩⟩
  split at h1
  rotate_left
  · exact h1.elim
  rename_i d ρ2 et
  obtain ⟨S2, r2⟩ := toVal_ok S1 k1 fr1 et
  split at h1
  rotate_left
  · exact h1.elim
  rename_i ρ3 eb
  exact ⟨G, ρ2, d, ρ3, S2, r2, eb, fun σ' S' _ _ => h1 σ' H1 S'⟩
/-! ### loops -/
theorem ds_for {tg iter : Expr} {body : List Stmt} {tgc : Tg} {fs : Env → Out (List D)} {fb : Env → SOut} (hp : PassesOwn (model X.prog X.w) X.A X.env X.xe) (hc : X.calm = true) (hi : PI X tg iter (tI N W fs)) (hg : PG X tg (tG N tgc)) (hb : PSs X body (tS N W fb)) (hs : notSetE iter = true) :
    PS X (.For tg iter body [] pos) (tS N W fun ρ => (fs ρ).st fun items ρ => forLoop (bindT tgc) fb items ρ) := by
  refine ⟨fun pins s σ H E I ⟨G, ρ, S, h⟩ => (ps_for hp hc hi hg hb (folded_plain hs)).run pins s σ H E I ⟨G, ρ, S, st_then (K := kI N) h fun items ρ1 J H1 S1 k1 fr1 h1 => ?_⟩⟩
  have S1' : StOk N G σ H1 ρ1 := S1.drop
  have k1' : Feed N (Frz G.Mc σ ρ1) (fun b => ¬ muts σ ρ1 b) H1 items J := (kI N).weak _ _ σ H1 ρ1 items J (fun x z => .inl z) (fun x z => z.elim) k1
  have h1' := SOutOk.shift S1' h1
  refine ⟨fun i m σ2 H2 => m = items.length - i ∧ ∃ ρ2, StOk N (G.at σ H1 ρ1) σ2 H2 ρ2 ∧ SOutOk N W (G.at σ H1 ρ1) E (forLoop (bindT tgc) fb (items.drop i) ρ2), ⟨items.length, rfl, ρ1, S1'.at, by rw [List.drop_zero]; exact h1'⟩, ?_⟩
  rintro i m σ2 H2 ⟨em, ρ2, S2, fin⟩
  obtain ⟨f1, f2⟩ := k1' H2 fun b o e n => S2.fr b o e n
  by_cases hi : items.length ≤ i
  · rw [List.drop_eq_nil_of_le hi] at fin
    exact .inl ⟨f2 i hi, fin σ2 H2 S2⟩
  · have hi : i < items.length := Nat.lt_of_not_le hi
    obtain ⟨go, yl⟩ := f1 i _ (List.getElem?_eq_getElem hi)
    rw [List.drop_eq_getElem_cons hi] at fin
    simp only [forLoop] at fin
    refine .inr ⟨go, fun σ' H' => ∃ ρ2, StOk N (G.at σ H1 ρ1) σ' H' ρ2 ∧ SOutOk N W (G.at σ H1 ρ1) E (forLoop (bindT tgc) fb (items.drop (i + 1)) ρ2), fun σ' H' h => ⟨items.length - (i + 1), by omega, rfl, h⟩, fun x H3 hy => ?_⟩
    obtain ⟨sm, rx⟩ := yl x H3 hy
    have S3 := S2.grow sm
    have rx3 : Rep N (Frz G.Mc σ2 ρ2) H3 items[i] x := by
      refine rx _ ?_ fun a e => S2.fresh e
      have S3' : StOk N ((G.at σ H1 ρ1).add noA) σ2 H3 ρ2 := by rw [Gh.add_no]; exact S3
      have := S1'.still S3' fun b z => z.elim
      exact fun a o f e => ⟨⟨fun z => (this a o f e).1.1 (.inl z), (this a o f e).1.2⟩, (this a o f e).2⟩
    cases eb : bindT tgc items[i] ρ2 with
    | none => rw [eb] at fin; exact fin.elim
    | some ρ3 =>
      rw [eb] at fin
      refine ⟨G.at σ H1 ρ1, ρ2, items[i], ρ3, S3, rx3, eb, fun σ4 S4 ag mu => ⟨G.at σ H1 ρ1, ρ3, S4, ?_⟩⟩
      dsimp only at fin
      cases e : fb ρ3 with
      | nx ρ' => rw [e] at fin; exact fun σ' H' S' => ⟨ρ', S', fin⟩
      | ct ρ' => rw [e] at fin; exact fun σ' H' S' => ⟨ρ', S', fin⟩
      | bk ρ' => rw [e] at fin; exact fin
      | stuck => rw [e] at fin; exact fin
      | exc x ρ' => rw [e] at fin; exact fin
      | rt r ρ' =>
        rw [e] at fin
        cases r with
        | bor i => exact fin
        | val d => exact fin
        | own d => exact fin
theorem ds_while {c : Expr} {body : List Stmt} {fc : Env → Out Bool} {fb : Env → SOut} {n : Nat} (hp : PassesOwn (model X.prog X.w) X.A X.env X.xe) (hc : PT X c (tT N W fc)) (hb : PSs X body (tS N W fb)) : PS X (.While c body [] pos) (tS N W fun ρ => whileLoop fc fb n ρ) := by
  refine ⟨fun pins s σ H E I ⟨G, ρ, S, h⟩ => (ps_while hp hc hb).run pins s σ H E I ?_⟩
  refine ⟨fun m σ2 H2 => ∃ ρ2, StOk N G σ2 H2 ρ2 ∧ SOutOk N W G E (whileLoop fc fb m ρ2), ⟨n, ρ, S, h⟩, ?_⟩
  rintro m σ2 H2 ⟨ρ2, S2, fin⟩
  cases m with
  | zero => exact fin.elim
  | succ m =>
    simp only [whileLoop] at fin
    refine ⟨G, ρ2, S2, ?_⟩
    cases e : fc ρ2 with
    | stuck => rw [e] at fin; exact fin
    | exc x ρ' => rw [e] at fin; exact fun cls dd H' S' X' => fin cls dd σ2 H' S' X'
    | ok b ρ3 =>
      rw [e] at fin
      intro b' H3 S3 k3 fr3
      cases (show b = b' from k3)
      have S9 : StOk N G σ2 H3 ρ3 := S3.drop
      cases b with
      | false => exact iteF (fin σ2 H3 S9)
      | true =>
        refine iteT ⟨fun σ' H' => ∃ ρ2, StOk N G σ' H' ρ2 ∧ SOutOk N W G E (whileLoop fc fb m ρ2), fun σ' H' h => ⟨m, Nat.lt_succ_self m, h⟩, G, ρ3, S9, ?_⟩
        dsimp only at fin
        cases e : fb ρ3 with
        | nx ρ' => rw [e] at fin; exact fun σ' H' S' => ⟨ρ', S', fin⟩
        | ct ρ' => rw [e] at fin; exact fun σ' H' S' => ⟨ρ', S', fin⟩
        | bk ρ' => rw [e] at fin; exact fin
        | stuck => rw [e] at fin; exact fin
        | exc x ρ' => rw [e] at fin; exact fin
        | rt r ρ' =>
          rw [e] at fin
          cases r with
          | bor i => exact fin
          | val d => exact fin
          | own d => exact fin
end
end Wf

/-! Wf: the small code stands for the text -/
namespace Wf
open PySem PySem.Spec PyProof.Rows L2
/-- what the global names stand for -/
structure Nam where
  fnN : Nat → Option Str
  clsN : Nat → Option Str
  newN : Nat → Option Str
  conN : Nat → Option Str
  biO : Bi → Bool
def biN : Bi → Str
  | .len => "len" | .tuple => "tuple" | .list => "list" | .int => "int" | .bool => "bool" | .sum => "sum" | .min => "min" | .max => "max" | .any => "any" | .all => "all"
  | .abs => "abs" | .sorted => "sorted" | .gcd => "gcd" | .str => "str" | .dict => "dict" | .set => "set"
def tyN (M : Nam) : Ty → Option Str
  | .non => none | .bl => some "bool" | .int => some "int" | .str => some "str" | .lst => some "list" | .tup => some "tuple" | .dic => some "dict" | .cls C => M.clsN C | .verr => some "ValueError"
def visB (sc : Scope) (x : Str) : Bool := match sc.names.lookup x with
  | some .local => true | some .cell => true | some .free => true | _ => false
def locB (sc : Scope) (x : Str) : Bool := match sc.names.lookup x with
  | some .local => true | some .cell => true | _ => false
def gloB (sc : Scope) (x : Str) : Bool := match sc.names.lookup x with
  | some .globalImplicit => true | _ => false
def okN (x : Str) : Bool := !(x == ("__debug__" : Str)) && !(x == ("__classdict__" : Str))
def notSlice : Expr → Bool
  | .Slice .. => false
  | _ => true
def blkB (NN : List Str) (sc scope : Scope) (own : List (Str × Nat)) : Bool :=
  decide (scope.kind = .function) && scope.names.all (fun y => decide (scope.names.lookup y.1 = some y.2)) && own.all (fun p => decide (NN[p.2]? = some p.1)) &&
  scope.names.all (fun y => if y.2 = .free then (decide (sc.names.lookup y.1 = some .cell) || decide (sc.names.lookup y.1 = some .free)) else true) &&
  scope.names.all (fun y => if y.2 = .local ∨ y.2 = .cell then (decide (y.1 ∈ own.map (·.1)) || decide (y.1 ∉ NN)) else true)
def ownOf (NN : List Str) (vs : List Nat) : List (Str × Nat) := vs.map fun i => (NN.getD i Str.empty, i)
section
variable (NN : List Str) (fl : Nat → Str) (M : Nam)
def varB (sc : Scope) (i : Nat) (x : Str) : Bool := decide (NN[i]? = some x) && visB sc x && okN x
mutual
/-- a target -/
def chkG (sc : Scope) (df : Bool) : Tg → Expr → Bool
  | .name i, .Name x _ => decide (NN[i]? = some x) && locB sc x && (df || decide (sc.names.lookup x = some .local))
  | .nil, .Tuple [] _ _ => true
  | .cons a b, .Tuple (e :: es) _ _ => (e :: es).all notStar && decide (lenT (.cons a b) = some (e :: es).length) && chkG sc df a e && chkGs sc df b es
  | _, _ => false
def chkGs (sc : Scope) (df : Bool) : Tg → List Expr → Bool
  | .nil, [] => true
  | .cons a b, e :: es => chkG sc df a e && chkGs sc df b es
  | _, _ => false
end
def isTrueC : Ex → Bool
  | .bl true => true | _ => false
mutual
def chkE (sc : Scope) : Ex → Expr → Bool
  | .never, _ => true
  | .var i, .Name x _ => varB NN sc i x
  | .non, .Constant .none _ _ => true
  | .bl b, .Constant (.bool c) _ _ => decide (b = c)
  | .int i, .Constant (.int j) _ _ => decide (i = j)
  | .str x, .Constant (.str y) _ _ => decide (x = y)
  | .glo g, .Name x _ => gloB sc x && decide (M.conN g = some x) && okN x
  | .bin op a b, .BinOp a' op' b' _ => decide (op = op') && chkE sc a a' && chkE sc b b'
  | .neg a, .UnaryOp .USub a' _ => chkE sc a a'
  | .inv a, .UnaryOp .Invert a' _ => chkE sc a a'
  | .nt a, .UnaryOp .Not a' _ => chkE sc a a'
  | .cmp op a b, .Compare a' [op'] [b'] _ => decide (op = op') && !behindInMarks op' b' && chkE sc a a' && chkE sc b b'
  | .cmp2 op op2 a b c, .Compare a' [op', op2'] [b', c'] _ => decide (op = op') && decide (op2 = op2') && !lastMarks [op', op2'] [b', c'] && chkE sc a a' && chkE sc b b' && chkE sc c c'
  | .and a b, .BoolOp .And [a', b'] _ => chkE sc a a' && chkE sc b b'
  | .and a b, .BoolOp .And (a' :: b' :: c' :: r) pos => chkE sc a a' && chkE sc b (.BoolOp .And (b' :: c' :: r) pos)
  | .or a b, .BoolOp .Or [a', b'] _ => chkE sc a a' && chkE sc b b'
  | .or a b, .BoolOp .Or (a' :: b' :: c' :: r) pos => chkE sc a a' && chkE sc b (.BoolOp .Or (b' :: c' :: r) pos)
  | .ite c a b, .IfExp c' a' b' _ => chkE sc c c' && chkE sc a a' && chkE sc b b'
  | .tup es, .Tuple es' _ _ => es'.all notStar && chkEs sc es es'
  | .lst es, .List es' _ => es'.all notStar && chkEs sc es es'
  | .sub a i, .Subscript a' i' _ => notSlice i' && chkE sc a a' && chkE sc i i'
  | .slc a lo hi, .Subscript a' (.Slice lo' hi' none _) _ => chkE sc a a' && (match lo' with | none => isNonC lo | some e' => !isNonC lo && chkE sc lo e') && (match hi' with | none => isNonC hi | some e' => !isNonC hi && chkE sc hi e')
  | .att a f, .Attribute a' x _ => decide (x = fl f) && plainO a' && chkE sc a a'
  | .ccon C f, .Attribute (.Name c _) x _ => decide (x = fl f) && gloB sc c && decide (M.clsN C = some c) && okN c
  | .call f es, .Call (.Name x _) es' [] _ => gloB sc x && decide (M.fnN f = some x) && okN x && es'.all notStar && chkEs sc es es'
  | .new C es, .Call (.Name x _) es' [] _ => gloB sc x && decide (M.newN C = some x) && okN x && es'.all notStar && chkEs sc es es'
  | .isi a t, .Call (.Name x _) [a', .Name c _] [] _ => decide (x = ("isinstance" : Str)) && gloB sc x && gloB sc c && okN c && decide (tyN M t = some c) && notStar a' && chkE sc a a'
  | .bi b es, .Call (.Name x _) (e' :: es') [] _ => gloB sc x && decide (biN b = x) && M.biO b && (e' :: es').all notStar && chkEs sc es (e' :: es')
  | .bm .bitLength a .nil, .Call (.Attribute a' x apos) [] [] pos => decide (x = ("bit_length" : Str)) && plainO a' && (apos.endLine == pos.line) && chkE sc a a'
  | .mth a m es, .Call (.Attribute a' x apos) es' [] pos => decide (x = fl m) && plainO a' && es'.all notStar && decide (es'.length < 30) && (apos.endLine == pos.line) && chkE sc a a' && chkEs sc es es'
  | .lso a, .Call (.Name x _) [a'] [] _ => decide (x = ("list" : Str)) && gloB sc x && notStar a' && chkE sc a a'
  | .app i e, .Call (.Attribute (.Name x _) m apos) [e'] [] pos => decide (m = ("append" : Str)) && varB NN sc i x && notStar e' && (apos.endLine == pos.line) && chkE sc e e'
  | .pop i, .Call (.Attribute (.Name x _) m apos) [] [] pos => decide (m = ("pop" : Str)) && varB NN sc i x && (apos.endLine == pos.line)
  | .popAt i e, .Call (.Attribute (.Name x _) m apos) [e'] [] pos => decide (m = ("pop" : Str)) && varB NN sc i x && notStar e' && (apos.endLine == pos.line) && chkE sc e e'
  | .comp e tg src cond, .ListComp e' [⟨tg', it', ifs, k⟩] scope _ => decide (k = 0) && notSetE it' && chkSrc sc src tg' it' && blkB NN sc scope (ownOf NN (slotsT tg)) && chkG NN (relS scope sc) false tg tg' && (match ifs with | [] => isTrueC cond | [c'] => chkE (relS scope sc) cond c' | _ => false) && chkE (relS scope sc) e e'
  | _, _ => false
def chkEs (sc : Scope) : Exs → List Expr → Bool
  | .nil, [] => true
  | .cons e es, e' :: es' => chkE sc e e' && chkEs sc es es'
  | _, _ => false
def chkSrc (sc : Scope) : Src → Expr → Expr → Bool
  | .of e, _, e' => chkE sc e e'
  | .range1 a, _, .Call (.Name x _) [a'] [] _ => decide (x = ("range" : Str)) && gloB sc x && notStar a' && chkE sc a a'
  | .range2 a b, _, .Call (.Name x _) [a', b'] [] _ => decide (x = ("range" : Str)) && gloB sc x && notStar a' && notStar b' && chkE sc a a' && chkE sc b b'
  | .enum a, .Tuple _ _ _, .Call (.Name x _) [a'] [] _ => decide (x = ("enumerate" : Str)) && gloB sc x && notStar a' && chkE sc a a'
  | .zip a b, .Tuple _ _ _, .Call (.Name x _) [a', b'] [] _ => decide (x = ("zip" : Str)) && gloB sc x && notStar a' && notStar b' && chkE sc a a' && chkE sc b b'
  | .rev a, _, .Call (.Name x _) [a'] [] _ => decide (x = ("reversed" : Str)) && gloB sc x && notStar a' && chkE sc a a'
  | _, _, _ => false
end
end
end Wf

/-! Wf: the small code does what the text does: expressions -/
namespace Wf
open PySem PySem.Spec PyProof.Rows L2
/-- what of a class makes isinstance of its objects told -/
def InstK (K : PySem.W.Frag) (Ca : Addr) : Prop := Cls K Ca ∧ PySem.W.findIn K (.ref Ca) "__class__" = some (some (.builtin "object.__class__")) ∧
  PySem.W.specialIn K (.builtin "object.__class__") "__get__" = some (some (.builtin "getset_descriptor.__get__")) ∧ PySem.W.takesIn K (.builtin "object.__class__") = some true ∧ PySem.W.mroIn K Ca (.type "object") = some true
/-- what is written in the program's world -/
structure Ws (K : PySem.W.Frag) (mg : Str → Option Value) (N : Nm) (T : Tab) (M : Nam) (fad : Nat → Addr) : Prop where
  nm : NmOk N
  kl : ∀ a ns, N.kl a ns → KL K a ns
  fn : ∀ f x, M.fnN f = some x → mg x = some (.ref (fad f)) ∧ PySem.W.keepIn K (.ref (fad f)) = true ∧ ∃ fd, T.fn f = some fd
  meth : ∀ C m f Ca, T.meth C m = some f → N.cls C = some Ca → Cls K Ca ∧ Meth K Ca (N.fld m) (fad f) ∧ ∃ fd, T.fn f = some fd
  cls : ∀ C x, M.clsN C = some x → ∃ Ca, N.cls C = some Ca ∧ mg x = some (.ref Ca)
  new : ∀ C x, M.newN C = some x → ∃ Ca f fd, N.cls C = some Ca ∧ mg x = some (.ref Ca) ∧ T.init C = some f ∧ T.fn f = some fd ∧ Mk K Ca (fad f)
  fld : ∀ C Ca f, N.cls C = some Ca → (T.flds C).contains f = true → Cls K Ca ∧ NoAttr K Ca (N.fld f)
  icon : ∀ C Ca f d, N.cls C = some Ca → T.ccon C f = some d → ∃ v u, Cls K Ca ∧ Con K Ca (N.fld f) v u ∧ ∀ F H, Rep N F H d v
  ccon : ∀ C Ca f d, N.cls C = some Ca → T.ccon C f = some d → ∃ mc v u, ClX.CRead K Ca mc ∧ ClX.CVal K Ca mc (N.fld f) v u ∧ ∀ F H, Rep N F H d v
  con : ∀ g x d, M.conN g = some x → T.con g = some d → ∃ v u, mg x = some u ∧ RelV v u ∧ ∀ F H, Rep N F H d v
  conT : ∀ g x, M.conN g = some x → ∃ d, T.con g = some d
  ty : ∀ t c, tyN M t = some c → ∃ cv, ClsV cv (tyVal N t) ∧ RelV cv (tyVal N t) ∧ (mg c = some (tyVal N t) ∨ (mg c = none ∧ bootBuiltins c = some (tyVal N t) ∧ c ≠ "__name__"))
  kit : ∀ k t b, T.isi k t = some b → PySem.W.kitOne K (tyVal N k) (tyVal N t) = some b
  inst : ∀ C Ca t, N.cls C = some Ca → T.isi (.cls C) t ≠ none → InstK K Ca
  bi : ∀ b, M.biO b = true → ((mg (biN b) = none ∧ bootBuiltins (biN b) = some (biVal b)) ∨ (mg (biN b) = some (biVal b) ∧ ∃ id, biVal b = .builtin id)) ∧ biN b ≠ "__name__" ∧ (biN b == ("__debug__" : Str)) = false
  itf : ∀ C Ca f, N.cls C = some Ca → T.itf C = some f → ∃ fi, ItFn K Ca fi (N.fld f)
  itn : mg "iter" = none ∧ mg "list" = none
  nam : mg "isinstance" = none ∧ mg "range" = none ∧ mg "enumerate" = none ∧ mg "zip" = none ∧ mg "reversed" = none
structure Wd (X : Cx) (N : Nm) (T : Tab) (M : Nam) (cl : Cl) (fad : Nat → Addr) (k : Nat) : Prop where
  ws : Ws X.K X.mg N T M fad
  clo : ClOk cl
  run : ∀ f fd, T.fn f = some fd → FnR X.prog X.w X.K X.mg X.base (L2.CX X.prog X.w) k (fad f) (spC N fd (cl f))
  room : Room (k + 1) X.A
  two : 2 ≤ k
  calm : X.calm = true
structure Bd (X : Cx) (W : WX) (NN : List Str) (sc : Scope) : Prop where
  nn : X.N = NN
  nd : NN.Nodup
  scp : X.env.scope = sc
  tk : Takes X W
section
variable {X : Cx} {N : Nm} {W : WX} {T : Tab} {M : Nam} {cl : Cl} {fad : Nat → Addr} {k : Nat} {NN : List Str} {sc : Scope}
theorem PE.eqv {e : Expr} {f g : Env → Out Rv} (h : ∀ ρ, f ρ = g ρ) (p : PE X e (tE N W g)) : PE X e (tE N W f) := by
  have : f = g := funext h
  rw [this]; exact p
theorem PT.eqv {e : Expr} {f g : Env → Out Bool} (h : ∀ ρ, f ρ = g ρ) (p : PT X e (tT N W g)) : PT X e (tT N W f) := by
  have : f = g := funext h
  rw [this]; exact p
theorem PW.eqv {e : Expr} {f g : Env → Out Bool} (h : ∀ ρ, f ρ = g ρ) (p : PW X e (tT N W g)) : PW X e (tT N W f) := by
  have : f = g := funext h
  rw [this]; exact p
theorem PA.eqv {e : List Expr} {f g : Env → Out (List Rv)} (h : ∀ ρ, f ρ = g ρ) (p : PA X e (tA N W g)) : PA X e (tA N W f) := by
  have : f = g := funext h
  rw [this]; exact p
theorem PI.eqv {tg e : Expr} {f g : Env → Out (List D)} (h : ∀ ρ, f ρ = g ρ) (p : PI X tg e (tI N W g)) : PI X tg e (tI N W f) := by
  have : f = g := funext h
  rw [this]; exact p
theorem PO.eqv {e : Option Expr} {f g : Env → Out (Option Int)} (h : ∀ ρ, f ρ = g ρ) (p : PO X e (tK (kO N) W g)) : PO X e (tK (kO N) W f) := by
  have : f = g := funext h
  rw [this]; exact p
theorem pt_stuck {e : Expr} {f : Env → Out Bool} (h : ∀ ρ, f ρ = .stuck) : PT X e (tT N W f) := ⟨fun pins s σ H Q I ⟨G, ρ, S, q⟩ => by rw [h] at q; exact q.elim⟩
theorem Wd.blk {s : Shared} {H : Hp} {scope : Scope} {env : PySem.Env} {fp : List Addr} (w : Wd X N T M cl fad k) : Wd (X.blk s H scope env fp) N T M cl fad k := ⟨w.ws, w.clo, w.run, w.room, w.two, w.calm⟩
theorem Bd.blk {s : Shared} {H : Hp} {scope : Scope} {C : Addr} {cl2 : List (Str × Addr)} {fp : List Addr} (b : Bd X W NN sc) : Bd (X.blk s H scope (compEnvC scope cl2 C X.env) fp) noW NN (relS scope sc) := by
  refine ⟨b.nn, b.nd, ?_, fun u s' ⟨_, _, _, _, _, _, _, _, _, _, _, _, _, _, _, _, w⟩ => w.elim⟩
  rw [← b.scp]; rfl
theorem visB_ok {x : Str} (b : Bd X W NN sc) (h : visB sc x = true) : Vis X.env.scope x := by
  rw [b.scp]
  unfold visB at h
  split at h
  · exact .inl (by assumption)
  · exact .inr (.inl (by assumption))
  · exact .inr (.inr (by assumption))
  · cases h
theorem locB_ok {x : Str} (b : Bd X W NN sc) (h : locB sc x = true) : Loc X.env.scope x := by
  rw [b.scp]
  unfold locB at h
  split at h
  · exact .inl (by assumption)
  · exact .inr (by assumption)
  · cases h
theorem gloB_ok {x : Str} (b : Bd X W NN sc) (h : gloB sc x = true) : Gl X x := by
  unfold Gl Env.kindOf
  rw [b.scp]
  unfold gloB at h
  split at h
  · assumption
  · cases h
theorem okN_ok {x : Str} (h : okN x = true) : (x == ("__debug__" : Str)) = false ∧ (x == ("__classdict__" : Str)) = false := by
  unfold okN at h
  rw [Bool.and_eq_true, Bool.not_eq_true', Bool.not_eq_true'] at h
  exact h
theorem varB_ok {x : Str} {i : Nat} (b : Bd X W NN sc) (h : varB NN sc i x = true) : X.N[i]? = some x ∧ Vis X.env.scope x ∧ (x == ("__debug__" : Str)) = false ∧ (x == ("__classdict__" : Str)) = false := by
  unfold varB at h
  rw [Bool.and_eq_true, Bool.and_eq_true] at h
  refine ⟨by rw [b.nn]; exact of_decide_eq_true h.1.1, visB_ok b h.1.2, okN_ok h.2⟩
theorem blkB_ok {scope : Scope} {own : List (Str × Nat)} (b : Bd X W NN sc) (h : blkB NN sc scope own = true) : BlkOk X.N X.env.scope scope own := by
  unfold blkB at h
  simp only [Bool.and_eq_true, List.all_eq_true, decide_eq_true_eq] at h
  obtain ⟨⟨⟨⟨h1, h2⟩, h3⟩, h4⟩, h5⟩ := h
  rw [b.nn, b.scp]
  refine ⟨h1, h2, h3, fun y hy e => ?_, fun y hy e => ?_⟩
  · have := h4 y hy
    rw [if_pos e] at this
    simpa using this
  · have := h5 y hy
    rw [if_pos e] at this
    simpa using this
theorem own_map {vs : List Nat} : (ownOf NN vs).map (·.2) = vs := by
  unfold ownOf
  rw [List.map_map]
  exact List.map_id vs
mutual
theorem sndG {df : Bool} (hc : X.calm = true) (b : Bd X W NN sc) (hf : df = true → ∀ x, X.fn x = true) : ∀ (tg : Tg) (e : Expr), chkG NN sc df tg e = true → PG X e (tG N tg)
  | .name i, e, h => by
    cases e <;> first | (simp only [chkG, Bool.false_eq_true] at h; done) | skip
    simp only [chkG, Bool.and_eq_true, decide_eq_true_eq, Bool.or_eq_true] at h
    exact dg_name (by rw [b.nn]; exact b.nd) (by rw [b.nn]; exact h.1.1) (locB_ok b h.1.2) (h.2.imp (fun z => hf z _) fun z => by rw [b.scp]; exact z)
  | .nil, e, h => by
    cases e <;> first | (simp only [chkG, Bool.false_eq_true] at h; done) | skip
    rename_i es _ _
    cases es with
    | nil => exact dg_tup hc rfl rfl (sndGs hc b hf .nil _ rfl)
    | cons _ _ => simp only [chkG, Bool.false_eq_true] at h
  | .cons x y, e, h => by
    cases e <;> first | (simp only [chkG, Bool.false_eq_true] at h; done) | skip
    rename_i es _ _
    cases es with
    | nil => simp only [chkG, Bool.false_eq_true] at h
    | cons e es =>
      simp only [chkG, Bool.and_eq_true, decide_eq_true_eq] at h
      obtain ⟨⟨⟨h1, h2⟩, h3⟩, h4⟩ := h
      have h1' := h1
      rw [List.all_cons, Bool.and_eq_true] at h1'
      exact dg_tup hc h1 h2 (dgs_cons h1'.1 (sndG hc b hf x e h3) (sndGs hc b hf y es h4))
theorem sndGs {df : Bool} (hc : X.calm = true) (b : Bd X W NN sc) (hf : df = true → ∀ x, X.fn x = true) : ∀ (tg : Tg) (es : List Expr), chkGs NN sc df tg es = true → PGs X es (tGs N tg)
  | .name i, es, h => by simp only [chkGs, Bool.false_eq_true] at h
  | .nil, es, h => by
    cases es with
    | nil => exact dgs_nil
    | cons _ _ => simp only [chkGs, Bool.false_eq_true] at h
  | .cons x y, es, h => by
    cases es with
    | nil => simp only [chkGs, Bool.false_eq_true] at h
    | cons e es =>
      simp only [chkGs, Bool.and_eq_true] at h
      refine dgs_cons ?_ (sndG hc b hf x e h.1) (sndGs hc b hf y es h.2)
      cases e <;> first | rfl | (cases x <;> simp only [chkG, Bool.false_eq_true, false_and] at h)
end
end
end Wf

/-! Wf: what a checked code says of its text (printed by a program) -/
namespace Wf
open PySem PySem.Spec PyProof.Rows L2
section
variable {X : Cx} {N : Nm} {W : WX} {T : Tab} {M : Nam} {cl : Cl} {fad : Nat → Addr} {k : Nat} {NN : List Str} {sc : Scope}
theorem inv_var {i e₀} (h : chkE NN N.fld M sc (.var i) e₀ = true) : ∃ x p, e₀ = .Name x p ∧ varB NN sc i x = true := by
  unfold chkE at h
  split at h <;> first | (rename_i q; cases q; done) | (cases h; done) | skip
  rename_i hq
  cases hq
  try simp only [Bool.and_eq_true, decide_eq_true_eq, Bool.not_eq_true'] at h
  exact ⟨_, _, rfl, h⟩
theorem inv_non {e₀} (h : chkE NN N.fld M sc (.non) e₀ = true) : ∃ j p, e₀ = .Constant .none j p := by
  unfold chkE at h
  split at h <;> first | (rename_i q; cases q; done) | (cases h; done) | skip
  exact ⟨_, _, rfl⟩
theorem inv_bl {b e₀} (h : chkE NN N.fld M sc (.bl b) e₀ = true) : ∃ c j p, e₀ = .Constant (.bool c) j p ∧ b = c := by
  unfold chkE at h
  split at h <;> first | (rename_i q; cases q; done) | (cases h; done) | skip
  rename_i hq
  cases hq
  try simp only [Bool.and_eq_true, decide_eq_true_eq, Bool.not_eq_true'] at h
  exact ⟨_, _, _, rfl, h⟩
theorem inv_int {i e₀} (h : chkE NN N.fld M sc (.int i) e₀ = true) : ∃ c j p, e₀ = .Constant (.int c) j p ∧ i = c := by
  unfold chkE at h
  split at h <;> first | (rename_i q; cases q; done) | (cases h; done) | skip
  rename_i hq
  cases hq
  try simp only [Bool.and_eq_true, decide_eq_true_eq, Bool.not_eq_true'] at h
  exact ⟨_, _, _, rfl, h⟩
theorem inv_str {x e₀} (h : chkE NN N.fld M sc (.str x) e₀ = true) : ∃ c j p, e₀ = .Constant (.str c) j p ∧ x = c := by
  unfold chkE at h
  split at h <;> first | (rename_i q; cases q; done) | (cases h; done) | skip
  rename_i hq
  cases hq
  try simp only [Bool.and_eq_true, decide_eq_true_eq, Bool.not_eq_true'] at h
  exact ⟨_, _, _, rfl, h⟩
theorem inv_glo {g e₀} (h : chkE NN N.fld M sc (.glo g) e₀ = true) : ∃ x p, e₀ = .Name x p ∧ gloB sc x = true ∧ M.conN g = some x ∧ okN x = true := by
  unfold chkE at h
  split at h <;> first | (rename_i q; cases q; done) | (cases h; done) | skip
  rename_i hq
  cases hq
  try simp only [Bool.and_eq_true, decide_eq_true_eq, Bool.not_eq_true'] at h
  exact ⟨_, _, rfl, h.1.1, h.1.2, h.2⟩
theorem inv_bin {op a b e₀} (h : chkE NN N.fld M sc (.bin op a b) e₀ = true) : ∃ a' op' b' p, e₀ = .BinOp a' op' b' p ∧ op = op' ∧ chkE NN N.fld M sc a a' = true ∧ chkE NN N.fld M sc b b' = true := by
  unfold chkE at h
  split at h <;> first | (rename_i q; cases q; done) | (cases h; done) | skip
  rename_i hq
  cases hq
  try simp only [Bool.and_eq_true, decide_eq_true_eq, Bool.not_eq_true'] at h
  exact ⟨_, _, _, _, rfl, h.1.1, h.1.2, h.2⟩
theorem inv_neg {a e₀} (h : chkE NN N.fld M sc (.neg a) e₀ = true) : ∃ a' p, e₀ = .UnaryOp .USub a' p ∧ chkE NN N.fld M sc a a' = true := by
  unfold chkE at h
  split at h <;> first | (rename_i q; cases q; done) | (cases h; done) | skip
  rename_i hq
  cases hq
  try simp only [Bool.and_eq_true, decide_eq_true_eq, Bool.not_eq_true'] at h
  exact ⟨_, _, rfl, h⟩
theorem inv_inv {a e₀} (h : chkE NN N.fld M sc (.inv a) e₀ = true) : ∃ a' p, e₀ = .UnaryOp .Invert a' p ∧ chkE NN N.fld M sc a a' = true := by
  unfold chkE at h
  split at h <;> first | (rename_i q; cases q; done) | (cases h; done) | skip
  rename_i hq
  cases hq
  try simp only [Bool.and_eq_true, decide_eq_true_eq, Bool.not_eq_true'] at h
  exact ⟨_, _, rfl, h⟩
theorem inv_nt {a e₀} (h : chkE NN N.fld M sc (.nt a) e₀ = true) : ∃ a' p, e₀ = .UnaryOp .Not a' p ∧ chkE NN N.fld M sc a a' = true := by
  unfold chkE at h
  split at h <;> first | (rename_i q; cases q; done) | (cases h; done) | skip
  rename_i hq
  cases hq
  try simp only [Bool.and_eq_true, decide_eq_true_eq, Bool.not_eq_true'] at h
  exact ⟨_, _, rfl, h⟩
theorem inv_cmp {op a b e₀} (h : chkE NN N.fld M sc (.cmp op a b) e₀ = true) : ∃ a' op' b' p, e₀ = .Compare a' [op'] [b'] p ∧ op = op' ∧ behindInMarks op' b' = false ∧ chkE NN N.fld M sc a a' = true ∧ chkE NN N.fld M sc b b' = true := by
  unfold chkE at h
  split at h <;> first | (rename_i q; cases q; done) | (cases h; done) | skip
  rename_i hq
  cases hq
  try simp only [Bool.and_eq_true, decide_eq_true_eq, Bool.not_eq_true'] at h
  exact ⟨_, _, _, _, rfl, h.1.1.1, h.1.1.2, h.1.2, h.2⟩
theorem inv_cmp2 {op op2 a b d e₀} (h : chkE NN N.fld M sc (.cmp2 op op2 a b d) e₀ = true) : ∃ a' op' op2' b' d' p, e₀ = .Compare a' [op', op2'] [b', d'] p ∧ op = op' ∧ op2 = op2' ∧ lastMarks [op', op2'] [b', d'] = false ∧ chkE NN N.fld M sc a a' = true ∧ chkE NN N.fld M sc b b' = true ∧ chkE NN N.fld M sc d d' = true := by
  unfold chkE at h
  split at h <;> first | (rename_i q; cases q; done) | (cases h; done) | skip
  rename_i hq
  cases hq
  try simp only [Bool.and_eq_true, decide_eq_true_eq, Bool.not_eq_true'] at h
  exact ⟨_, _, _, _, _, _, rfl, h.1.1.1.1.1, h.1.1.1.1.2, h.1.1.1.2, h.1.1.2, h.1.2, h.2⟩
theorem inv_ite {q a b e₀} (h : chkE NN N.fld M sc (.ite q a b) e₀ = true) : ∃ q' a' b' p, e₀ = .IfExp q' a' b' p ∧ chkE NN N.fld M sc q q' = true ∧ chkE NN N.fld M sc a a' = true ∧ chkE NN N.fld M sc b b' = true := by
  unfold chkE at h
  split at h <;> first | (rename_i q; cases q; done) | (cases h; done) | skip
  rename_i hq
  cases hq
  try simp only [Bool.and_eq_true, decide_eq_true_eq, Bool.not_eq_true'] at h
  exact ⟨_, _, _, _, rfl, h.1.1, h.1.2, h.2⟩
theorem inv_tup {es e₀} (h : chkE NN N.fld M sc (.tup es) e₀ = true) : ∃ es' n p, e₀ = .Tuple es' n p ∧ es'.all notStar = true ∧ chkEs NN N.fld M sc es es' = true := by
  unfold chkE at h
  split at h <;> first | (rename_i q; cases q; done) | (cases h; done) | skip
  rename_i hq
  cases hq
  try simp only [Bool.and_eq_true, decide_eq_true_eq, Bool.not_eq_true'] at h
  exact ⟨_, _, _, rfl, h.1, h.2⟩
theorem inv_lst {es e₀} (h : chkE NN N.fld M sc (.lst es) e₀ = true) : ∃ es' p, e₀ = .List es' p ∧ es'.all notStar = true ∧ chkEs NN N.fld M sc es es' = true := by
  unfold chkE at h
  split at h <;> first | (rename_i q; cases q; done) | (cases h; done) | skip
  rename_i hq
  cases hq
  try simp only [Bool.and_eq_true, decide_eq_true_eq, Bool.not_eq_true'] at h
  exact ⟨_, _, rfl, h.1, h.2⟩
theorem inv_sub {a i e₀} (h : chkE NN N.fld M sc (.sub a i) e₀ = true) : ∃ a' i' p, e₀ = .Subscript a' i' p ∧ notSlice i' = true ∧ chkE NN N.fld M sc a a' = true ∧ chkE NN N.fld M sc i i' = true := by
  unfold chkE at h
  split at h <;> first | (rename_i q; cases q; done) | (cases h; done) | skip
  rename_i hq
  cases hq
  try simp only [Bool.and_eq_true, decide_eq_true_eq, Bool.not_eq_true'] at h
  exact ⟨_, _, _, rfl, h.1.1, h.1.2, h.2⟩
theorem inv_slc {a lo hi e₀} (h : chkE NN N.fld M sc (.slc a lo hi) e₀ = true) : ∃ a' lo' hi' p2 p, e₀ = .Subscript a' (.Slice lo' hi' none p2) p ∧ chkE NN N.fld M sc a a' = true ∧ (match lo' with | none => isNonC lo | some e' => !isNonC lo && chkE NN N.fld M sc lo e') = true ∧ (match hi' with | none => isNonC hi | some e' => !isNonC hi && chkE NN N.fld M sc hi e') = true := by
  unfold chkE at h
  split at h <;> first | (rename_i q; cases q; done) | (cases h; done) | skip
  rename_i hq
  cases hq
  try simp only [Bool.and_eq_true, decide_eq_true_eq, Bool.not_eq_true'] at h
  exact ⟨_, _, _, _, _, rfl, h.1.1, h.1.2, h.2⟩
theorem inv_att {a f e₀} (h : chkE NN N.fld M sc (.att a f) e₀ = true) : ∃ a' x p, e₀ = .Attribute a' x p ∧ x = N.fld f ∧ plainO a' = true ∧ chkE NN N.fld M sc a a' = true := by
  unfold chkE at h
  split at h <;> first | (rename_i q; cases q; done) | (cases h; done) | skip
  rename_i hq
  cases hq
  try simp only [Bool.and_eq_true, decide_eq_true_eq, Bool.not_eq_true'] at h
  exact ⟨_, _, _, rfl, h.1.1, h.1.2, h.2⟩
theorem inv_ccon {C f e₀} (h : chkE NN N.fld M sc (.ccon C f) e₀ = true) : ∃ q p2 x p, e₀ = .Attribute (.Name q p2) x p ∧ x = N.fld f ∧ gloB sc q = true ∧ M.clsN C = some q ∧ okN q = true := by
  unfold chkE at h
  split at h <;> first | (rename_i q; cases q; done) | (cases h; done) | skip
  rename_i hq
  cases hq
  try simp only [Bool.and_eq_true, decide_eq_true_eq, Bool.not_eq_true'] at h
  exact ⟨_, _, _, _, rfl, h.1.1.1, h.1.1.2, h.1.2, h.2⟩
theorem inv_call {f es e₀} (h : chkE NN N.fld M sc (.call f es) e₀ = true) : ∃ x p2 es' p, e₀ = .Call (.Name x p2) es' [] p ∧ gloB sc x = true ∧ M.fnN f = some x ∧ okN x = true ∧ es'.all notStar = true ∧ chkEs NN N.fld M sc es es' = true := by
  unfold chkE at h
  split at h <;> first | (rename_i q; cases q; done) | (cases h; done) | skip
  rename_i hq
  cases hq
  try simp only [Bool.and_eq_true, decide_eq_true_eq, Bool.not_eq_true'] at h
  exact ⟨_, _, _, _, rfl, h.1.1.1.1, h.1.1.1.2, h.1.1.2, h.1.2, h.2⟩
theorem inv_new {C es e₀} (h : chkE NN N.fld M sc (.new C es) e₀ = true) : ∃ x p2 es' p, e₀ = .Call (.Name x p2) es' [] p ∧ gloB sc x = true ∧ M.newN C = some x ∧ okN x = true ∧ es'.all notStar = true ∧ chkEs NN N.fld M sc es es' = true := by
  unfold chkE at h
  split at h <;> first | (rename_i q; cases q; done) | (cases h; done) | skip
  rename_i hq
  cases hq
  try simp only [Bool.and_eq_true, decide_eq_true_eq, Bool.not_eq_true'] at h
  exact ⟨_, _, _, _, rfl, h.1.1.1.1, h.1.1.1.2, h.1.1.2, h.1.2, h.2⟩
theorem inv_isi {a t e₀} (h : chkE NN N.fld M sc (.isi a t) e₀ = true) : ∃ x p2 a' q p3 p, e₀ = .Call (.Name x p2) [a', .Name q p3] [] p ∧ x = ("isinstance" : Str) ∧ gloB sc x = true ∧ gloB sc q = true ∧ okN q = true ∧ tyN M t = some q ∧ notStar a' = true ∧ chkE NN N.fld M sc a a' = true := by
  unfold chkE at h
  split at h <;> first | (rename_i q; cases q; done) | (cases h; done) | skip
  rename_i hq
  cases hq
  try simp only [Bool.and_eq_true, decide_eq_true_eq, Bool.not_eq_true'] at h
  exact ⟨_, _, _, _, _, _, rfl, h.1.1.1.1.1.1, h.1.1.1.1.1.2, h.1.1.1.1.2, h.1.1.1.2, h.1.1.2, h.1.2, h.2⟩
theorem inv_bi {b es e₀} (h : chkE NN N.fld M sc (.bi b es) e₀ = true) : ∃ x p2 e' es' p, e₀ = .Call (.Name x p2) (e' :: es') [] p ∧ gloB sc x = true ∧ biN b = x ∧ M.biO b = true ∧ (e' :: es').all notStar = true ∧ chkEs NN N.fld M sc es (e' :: es') = true := by
  unfold chkE at h
  split at h <;> first | (rename_i q; cases q; done) | (cases h; done) | skip
  rename_i hq
  cases hq
  try simp only [Bool.and_eq_true, decide_eq_true_eq, Bool.not_eq_true'] at h
  exact ⟨_, _, _, _, _, rfl, h.1.1.1.1, h.1.1.1.2, h.1.1.2, h.1.2, h.2⟩
theorem inv_bm {m a es e₀} (h : chkE NN N.fld M sc (.bm m a es) e₀ = true) : ∃ a' x p2 p, e₀ = .Call (.Attribute a' x p2) [] [] p ∧ m = .bitLength ∧ es = .nil ∧ x = ("bit_length" : Str) ∧ plainO a' = true ∧ (p2.endLine == p.line) = true ∧ chkE NN N.fld M sc a a' = true := by
  unfold chkE at h
  split at h <;> first | (rename_i q; cases q; done) | (cases h; done) | skip
  rename_i hq
  cases hq
  try simp only [Bool.and_eq_true, decide_eq_true_eq, Bool.not_eq_true'] at h
  exact ⟨_, _, _, _, rfl, rfl, rfl, h.1.1.1, h.1.1.2, h.1.2, h.2⟩
theorem inv_mth {a m es e₀} (h : chkE NN N.fld M sc (.mth a m es) e₀ = true) : ∃ a' x p2 es' p, e₀ = .Call (.Attribute a' x p2) es' [] p ∧ x = N.fld m ∧ plainO a' = true ∧ es'.all notStar = true ∧ es'.length < 30 ∧ (p2.endLine == p.line) = true ∧ chkE NN N.fld M sc a a' = true ∧ chkEs NN N.fld M sc es es' = true := by
  unfold chkE at h
  split at h <;> first | (rename_i q; cases q; done) | (cases h; done) | skip
  rename_i hq
  cases hq
  try simp only [Bool.and_eq_true, decide_eq_true_eq, Bool.not_eq_true'] at h
  exact ⟨_, _, _, _, _, rfl, h.1.1.1.1.1.1, h.1.1.1.1.1.2, h.1.1.1.1.2, h.1.1.1.2, h.1.1.2, h.1.2, h.2⟩
theorem inv_lso {a e₀} (h : chkE NN N.fld M sc (.lso a) e₀ = true) : ∃ x p2 a' p, e₀ = .Call (.Name x p2) [a'] [] p ∧ x = ("list" : Str) ∧ gloB sc x = true ∧ notStar a' = true ∧ chkE NN N.fld M sc a a' = true := by
  unfold chkE at h
  split at h <;> first | (rename_i q; cases q; done) | (cases h; done) | skip
  rename_i hq
  cases hq
  try simp only [Bool.and_eq_true, decide_eq_true_eq, Bool.not_eq_true'] at h
  exact ⟨_, _, _, _, rfl, h.1.1.1, h.1.1.2, h.1.2, h.2⟩
theorem inv_app {i e e₀} (h : chkE NN N.fld M sc (.app i e) e₀ = true) : ∃ x p3 m p2 e' p, e₀ = .Call (.Attribute (.Name x p3) m p2) [e'] [] p ∧ m = ("append" : Str) ∧ varB NN sc i x = true ∧ notStar e' = true ∧ (p2.endLine == p.line) = true ∧ chkE NN N.fld M sc e e' = true := by
  unfold chkE at h
  split at h <;> first | (rename_i q; cases q; done) | (cases h; done) | skip
  rename_i hq
  cases hq
  try simp only [Bool.and_eq_true, decide_eq_true_eq, Bool.not_eq_true'] at h
  exact ⟨_, _, _, _, _, _, rfl, h.1.1.1.1, h.1.1.1.2, h.1.1.2, h.1.2, h.2⟩
theorem inv_pop {i e₀} (h : chkE NN N.fld M sc (.pop i) e₀ = true) : ∃ x p3 m p2 p, e₀ = .Call (.Attribute (.Name x p3) m p2) [] [] p ∧ m = ("pop" : Str) ∧ varB NN sc i x = true ∧ (p2.endLine == p.line) = true := by
  unfold chkE at h
  split at h <;> first | (rename_i q; cases q; done) | (cases h; done) | skip
  rename_i hq
  cases hq
  try simp only [Bool.and_eq_true, decide_eq_true_eq, Bool.not_eq_true'] at h
  exact ⟨_, _, _, _, _, rfl, h.1.1, h.1.2, h.2⟩
theorem inv_popAt {i e e₀} (h : chkE NN N.fld M sc (.popAt i e) e₀ = true) : ∃ x p3 m p2 e' p, e₀ = .Call (.Attribute (.Name x p3) m p2) [e'] [] p ∧ m = ("pop" : Str) ∧ varB NN sc i x = true ∧ notStar e' = true ∧ (p2.endLine == p.line) = true ∧ chkE NN N.fld M sc e e' = true := by
  unfold chkE at h
  split at h <;> first | (rename_i q; cases q; done) | (cases h; done) | skip
  rename_i hq
  cases hq
  try simp only [Bool.and_eq_true, decide_eq_true_eq, Bool.not_eq_true'] at h
  exact ⟨_, _, _, _, _, _, rfl, h.1.1.1.1, h.1.1.1.2, h.1.1.2, h.1.2, h.2⟩
theorem inv_comp {e tg src cond e₀} (h : chkE NN N.fld M sc (.comp e tg src cond) e₀ = true) : ∃ e' tg' it' ifs k scope p, e₀ = .ListComp e' [⟨tg', it', ifs, k⟩] scope p ∧ k = 0 ∧ notSetE it' = true ∧ chkSrc NN N.fld M sc src tg' it' = true ∧ blkB NN sc scope (ownOf NN (slotsT tg)) = true ∧ chkG NN (relS scope sc) false tg tg' = true ∧ (match ifs with | [] => isTrueC cond | [c'] => chkE NN N.fld M (relS scope sc) cond c' | _ => false) = true ∧ chkE NN N.fld M (relS scope sc) e e' = true := by
  unfold chkE at h
  split at h <;> first | (rename_i q; cases q; done) | (cases h; done) | skip
  rename_i hq
  cases hq
  try simp only [Bool.and_eq_true, decide_eq_true_eq, Bool.not_eq_true'] at h
  exact ⟨_, _, _, _, _, _, _, rfl, h.1.1.1.1.1.1, h.1.1.1.1.1.2, h.1.1.1.1.2, h.1.1.1.2, h.1.1.2, h.1.2, h.2⟩
theorem inv_and {a b e₀} (h : chkE NN N.fld M sc (.and a b) e₀ = true) : (∃ a' b' p, e₀ = .BoolOp .And [a', b'] p ∧ chkE NN N.fld M sc a a' = true ∧ chkE NN N.fld M sc b b' = true) ∨ ∃ a' b' c' r p, e₀ = .BoolOp .And (a' :: b' :: c' :: r) p ∧ chkE NN N.fld M sc a a' = true ∧ chkE NN N.fld M sc b (.BoolOp .And (b' :: c' :: r) p) = true := by
  unfold chkE at h
  split at h <;> first | (rename_i q; cases q; done) | (cases h; done) | skip
  · rename_i hq
    cases hq
    rw [Bool.and_eq_true] at h
    exact .inl ⟨_, _, _, rfl, h.1, h.2⟩
  · rename_i hq
    cases hq
    rw [Bool.and_eq_true] at h
    exact .inr ⟨_, _, _, _, _, rfl, h.1, h.2⟩
theorem inv_or {a b e₀} (h : chkE NN N.fld M sc (.or a b) e₀ = true) : (∃ a' b' p, e₀ = .BoolOp .Or [a', b'] p ∧ chkE NN N.fld M sc a a' = true ∧ chkE NN N.fld M sc b b' = true) ∨ ∃ a' b' c' r p, e₀ = .BoolOp .Or (a' :: b' :: c' :: r) p ∧ chkE NN N.fld M sc a a' = true ∧ chkE NN N.fld M sc b (.BoolOp .Or (b' :: c' :: r) p) = true := by
  unfold chkE at h
  split at h <;> first | (rename_i q; cases q; done) | (cases h; done) | skip
  · rename_i hq
    cases hq
    rw [Bool.and_eq_true] at h
    exact .inl ⟨_, _, _, rfl, h.1, h.2⟩
  · rename_i hq
    cases hq
    rw [Bool.and_eq_true] at h
    exact .inr ⟨_, _, _, _, _, rfl, h.1, h.2⟩
end
end Wf

/-! Wf: the small code does what the text does: expressions -/
namespace Wf
open PySem PySem.Spec PyProof.Rows L2
theorem plainIx {b : Expr} (h : notSlice b = true) : PlainIx b := by
  intro o i
  cases b <;> first | rfl | cases h
theorem pe_stuck {X : Cx} {N : Nm} {W : WX} {e : Expr} {f : Env → Out Rv} (h : ∀ ρ, f ρ = .stuck) : PE X e (tE N W f) := ⟨fun pins s σ H Q I ⟨G, ρ, S, q⟩ => by rw [h] at q; exact q.elim⟩
theorem pw_stuck {X : Cx} {N : Nm} {W : WX} {e : Expr} {f : Env → Out Bool} (h : ∀ ρ, f ρ = .stuck) : PW X e (tT N W f) := ⟨fun whole pins s σ H Q I ⟨G, ρ, S, q⟩ => by rw [h] at q; exact q.elim⟩
theorem notStar_tup {es : List Expr} {n : Nat} {p : Pos} : notStar (.Tuple es n p) = true := rfl
section
variable {N : Nm} {T : Tab} {M : Nam} {cl : Cl} {fad : Nat → Addr} {k : Nat} {NN : List Str}
theorem pe_cls {X : Cx} {W : WX} {sc : Scope} {q : Str} {p : Pos} {t : Ty} (w : Wd X N T M cl fad k) (b : Bd X W NN sc) (hg : gloB sc q = true) (ho : okN q = true) (ht : tyN M t = some q) : ∃ cv, ClsV cv (tyVal N t) ∧ PE X (.Name q p) (tC cv) := by
  obtain ⟨cv, h1, h2, h3⟩ := w.ws.ty t q ht
  refine ⟨cv, h1, ?_⟩
  rcases h3 with h3 | ⟨h3, h4, h5⟩
  · exact pe_glob (gloB_ok b hg) h3 h2 (okN_ok ho).1
  · exact pe_bltn (gloB_ok b hg) h3 h4 h2 h5 (okN_ok ho).1
theorem po_lo {X : Cx} {W : WX} {c : Ex} {g : Env → Out Rv} (h : isNonC c = true) (_ : (none : Option Expr) = none ∨ False) : PO X none (tK (kO N) W fun ρ => partR (isNonC c) (g ρ) ρ) :=
  PO.eqv (fun ρ => by rw [h]; rfl) do_none
theorem po_lo2 {X : Cx} {W : WX} {c : Ex} {e : Expr} {g : Env → Out Rv} (h : isNonC c = false) (p : PE X e (tE N W g)) : PO X (some e) (tK (kO N) W fun ρ => partR (isNonC c) (g ρ) ρ) :=
  PO.eqv (fun ρ => by rw [h]; rfl) (do_some p)
theorem if_none {X : Cx} {W : WX} {c : Ex} (h : isTrueC c = true) : PTs X [] (tT N W (evalT T cl c)) := by
  cases c <;> first | (simp only [isTrueC, Bool.false_eq_true] at h; done) | skip
  rename_i v
  cases v with
  | false => simp only [isTrueC, Bool.false_eq_true] at h
  | true =>
    have : evalT T cl (.bl true) = fun ρ => .ok true ρ := by funext ρ; rw [evalT]
    rw [this]
    exact dts_none
mutual
theorem sndE : ∀ (c : Ex) {X : Cx} {W : WX} {sc : Scope} (w : Wd X N T M cl fad k) (b : Bd X W NN sc) (e : Expr), chkE NN N.fld M sc c e = true → PE X e (tE N W (evalE T cl c))
  | .var i, X, W, sc, w, b, e, h => by
    obtain ⟨x, p, rfl, h1⟩ := inv_var h
    obtain ⟨q1, q2, q3, q4⟩ := varB_ok b h1
    exact PE.eqv (fun ρ => by rw [evalE]) (de_var q1 q2 q3 q4)
  | .never, X, W, sc, w, b, e, h => pe_stuck fun ρ => by rw [evalE]
  | .non, X, W, sc, w, b, e, h => by
    obtain ⟨j, p, rfl⟩ := inv_non h
    exact PE.eqv (fun ρ => by rw [evalE]) (de_const (d := .non) (fun _ _ => rfl) pe_non)
  | .bl x, X, W, sc, w, b, e, h => by
    obtain ⟨c, j, p, rfl, rfl⟩ := inv_bl h
    exact PE.eqv (fun ρ => by rw [evalE]) (de_const (d := .bl _) (fun _ _ => rfl) pe_bl)
  | .int x, X, W, sc, w, b, e, h => by
    obtain ⟨c, j, p, rfl, rfl⟩ := inv_int h
    exact PE.eqv (fun ρ => by rw [evalE]) (de_const (d := .int _) (fun _ _ => rfl) pe_int)
  | .str x, X, W, sc, w, b, e, h => by
    obtain ⟨c, j, p, rfl, rfl⟩ := inv_str h
    exact PE.eqv (fun ρ => by rw [evalE]) (de_const (d := .str _) (fun _ _ => rfl) pe_str)
  | .glo g, X, W, sc, w, b, e, h => by
    obtain ⟨x, p, rfl, h1, h2, h3⟩ := inv_glo h
    obtain ⟨d, ed⟩ := w.ws.conT g x h2
    obtain ⟨v, u, e1, e2, e3⟩ := w.ws.con g x d h2 ed
    exact PE.eqv (fun ρ => by rw [evalE, ed]) (de_const e3 (pe_glob (gloB_ok b h1) e1 e2 (okN_ok h3).1))
  | .bin op x y, X, W, sc, w, b, e, h => by
    obtain ⟨x', op', y', p, rfl, rfl, h1, h2⟩ := inv_bin h
    exact PE.eqv (fun ρ => by rw [evalE]) (de_bin (sndE x w b x' h1) (sndE y w b y' h2))
  | .neg x, X, W, sc, w, b, e, h => by
    obtain ⟨x', p, rfl, h1⟩ := inv_neg h
    exact PE.eqv (fun ρ => by rw [evalE]) (de_un un_negD (sndE x w b x' h1))
  | .inv x, X, W, sc, w, b, e, h => by
    obtain ⟨x', p, rfl, h1⟩ := inv_inv h
    exact PE.eqv (fun ρ => by rw [evalE]) (de_un un_invD (sndE x w b x' h1))
  | .nt x, X, W, sc, w, b, e, h => by
    obtain ⟨x', p, rfl, h1⟩ := inv_nt h
    exact PE.eqv (fun ρ => by rw [evalE]) (de_not (sndE x w b x' h1))
  | .cmp op x y, X, W, sc, w, b, e, h => by
    obtain ⟨x', op', y', p, rfl, rfl, h0, h1, h2⟩ := inv_cmp h
    exact PE.eqv (fun ρ => by rw [evalE]) (de_cmp w.room.units h0 (sndE x w b x' h1) (sndE y w b y' h2))
  | .cmp2 op op2 x y z, X, W, sc, w, b, e, h => by
    obtain ⟨x', op', op2', y', z', p, rfl, rfl, rfl, h0, h1, h2, h3⟩ := inv_cmp2 h
    exact PE.eqv (fun ρ => by first | (rw [evalE]; done) | (rw [evalE]; rfl)) (de_chain w.room.units h0 (sndE x w b x' h1) (sndE y w b y' h2) (sndE z w b z' h3))
  | .and x y, X, W, sc, w, b, e, h => by
    rcases inv_and h with ⟨x', y', p, rfl, h1, h2⟩ | ⟨x', y', z', r, p, rfl, h1, h2⟩
    · exact PE.eqv (fun ρ => by first | (rw [evalE]; done) | (rw [evalE]; rfl)) (de_and (sndE x w b x' h1) (pe_one (sndE y w b y' h2)))
    · exact PE.eqv (fun ρ => by first | (rw [evalE]; done) | (rw [evalE]; rfl)) (de_and (sndE x w b x' h1) (sndE y w b _ h2))
  | .or x y, X, W, sc, w, b, e, h => by
    rcases inv_or h with ⟨x', y', p, rfl, h1, h2⟩ | ⟨x', y', z', r, p, rfl, h1, h2⟩
    · exact PE.eqv (fun ρ => by first | (rw [evalE]; done) | (rw [evalE]; rfl)) (de_or (sndE x w b x' h1) (pe_one (sndE y w b y' h2)))
    · exact PE.eqv (fun ρ => by first | (rw [evalE]; done) | (rw [evalE]; rfl)) (de_or (sndE x w b x' h1) (sndE y w b _ h2))
  | .ite q x y, X, W, sc, w, b, e, h => by
    obtain ⟨q', x', y', p, rfl, h0, h1, h2⟩ := inv_ite h
    exact PE.eqv (fun ρ => by rw [evalE]) (de_ite (sndT q w b q' h0).1 (sndE x w b x' h1) (sndE y w b y' h2))
  | .tup es, X, W, sc, w, b, e, h => by
    obtain ⟨es', n, p, rfl, h0, h1⟩ := inv_tup h
    exact PE.eqv (fun ρ => by first | (rw [evalE]; done) | (rw [evalE]; rfl)) (de_tup (sndEs es w b es' h0 h1))
  | .lst es, X, W, sc, w, b, e, h => by
    obtain ⟨es', p, rfl, h0, h1⟩ := inv_lst h
    exact PE.eqv (fun ρ => by first | (rw [evalE]; done) | (rw [evalE]; rfl)) (de_lst (sndEs es w b es' h0 h1))
  | .sub x y, X, W, sc, w, b, e, h => by
    obtain ⟨x', y', p, rfl, h0, h1, h2⟩ := inv_sub h
    exact PE.eqv (fun ρ => by rw [evalE]) (de_sub (plainIx h0) (sndE x w b x' h1) (sndE y w b y' h2))
  | .slc x lo hi, X, W, sc, w, b, e, h => by
    obtain ⟨x', lo', hi', p2, p, rfl, h0, h1, h2⟩ := inv_slc h
    have pl : PO X lo' (tK (kO N) W fun ρ => partR (isNonC lo) (evalE T cl lo ρ) ρ) := by
      cases lo' with
      | none => exact po_lo h1 (.inl rfl)
      | some e' =>
        rw [Bool.and_eq_true, Bool.not_eq_true'] at h1
        exact po_lo2 h1.1 (sndE lo w b e' h1.2)
    have ph : PO X hi' (tK (kO N) W fun ρ => partR (isNonC hi) (evalE T cl hi ρ) ρ) := by
      cases hi' with
      | none => exact po_lo h2 (.inl rfl)
      | some e' =>
        rw [Bool.and_eq_true, Bool.not_eq_true'] at h2
        exact po_lo2 h2.1 (sndE hi w b e' h2.2)
    exact PE.eqv (fun ρ => by rw [evalE]) (de_slc w.ws.kl (sndE x w b x' h0) pl ph)
  | .att x f, X, W, sc, w, b, e, h => by
    obtain ⟨x', y, p, rfl, rfl, h1, h2⟩ := inv_att h
    exact PE.eqv (fun ρ => by rw [evalE]) (de_att w.ws.nm (fun C Ca q z => w.ws.fld C Ca f q z) (fun C Ca d q z => w.ws.icon C Ca f d q z) h1 (sndE x w b x' h2))
  | .ccon C f, X, W, sc, w, b, e, h => by
    obtain ⟨q, p2, x, p, rfl, rfl, h1, h2, h3⟩ := inv_ccon h
    obtain ⟨Ca, e1, e2⟩ := w.ws.cls C q h2
    exact PE.eqv (fun ρ => by first | (rw [evalE]; done) | (rw [evalE]; rfl)) (de_ccon (gloB_ok b h1) e2 (okN_ok h3).1 (fun d z => w.ws.ccon C Ca f d e1 z))
  | .call f es, X, W, sc, w, b, e, h => by
    obtain ⟨x, p2, es', p, rfl, h1, h2, h3, h4, h5⟩ := inv_call h
    obtain ⟨e1, e2, fd, e3⟩ := w.ws.fn f x h2
    exact PE.eqv (fun ρ => by rw [evalE]) (de_call b.tk w.clo e3 (w.run f fd e3) (w.room.mono (Nat.le_succ _)) (gloB_ok b h1) e1 e2 (okN_ok h3).1 h4 (fun z => sndN es (by rw [z] at h5; exact h5)) (sndEs es w b es' h4 h5))
  | .new C es, X, W, sc, w, b, e, h => by
    obtain ⟨x, p2, es', p, rfl, h1, h2, h3, h4, h5⟩ := inv_new h
    obtain ⟨Ca, f, fd, e1, e2, ei, e4, e3⟩ := w.ws.new C x h2
    exact PE.eqv (fun ρ => by rw [evalE]) (de_new b.tk w.clo ei e4 e1 e3 (w.run f fd e4) w.room (gloB_ok b h1) e2 (okN_ok h3).1 h4 (fun z => sndN es (by rw [z] at h5; exact h5)) (sndEs es w b es' h4 h5))
  | .isi x t, X, W, sc, w, b, e, h => by
    obtain ⟨y, p2, x', q, p3, p, rfl, rfl, h1, h2, h3, h4, h5, h6⟩ := inv_isi h
    obtain ⟨cv, e1, e2⟩ := pe_cls w b h2 h3 h4
    exact PE.eqv (fun ρ => by rw [evalE]) (de_isi (gloB_ok b h1) w.ws.nam.1 (fun C Ca q z => w.ws.inst C Ca t q z) (fun k' b' z => w.ws.kit k' t b' z) e1 e2 h5 rfl (sndE x w b x' h6))
  | .bi y es, X, W, sc, w, b, e, h => by
    obtain ⟨x, p2, e', es', p, rfl, h1, rfl, hb, h3, h4⟩ := inv_bi h
    obtain ⟨e1, e2, e3⟩ := w.ws.bi y hb
    exact PE.eqv (fun ρ => by rw [evalE]) (de_bi w.calm (gloB_ok b h1) e2 e3 e1 h3 (sndEs es w b _ h3 h4))
  | .bm m x es, X, W, sc, w, b, e, h => by
    obtain ⟨x', y, p2, p, rfl, rfl, rfl, rfl, h1, h2, h3⟩ := inv_bm h
    exact PE.eqv (fun ρ => by rw [evalE]; simp only [evalEs]; rfl) (de_bits h1 h2 (sndE x w b x' h3))
  | .mth x m es, X, W, sc, w, b, e, h => by
    obtain ⟨x', y, p2, es', p, rfl, rfl, h1, h2, h3, h4, h5, h6⟩ := inv_mth h
    have key : ∀ C f Ca, T.meth C m = some f → N.cls C = some Ca → Cls X.K Ca ∧ Meth X.K Ca (N.fld m) (fad f) ∧ ∃ fd, T.fn f = some fd ∧ FnR X.prog X.w X.K X.mg X.base (L2.CX X.prog X.w) k (fad f) (spC N fd (cl f)) := fun C f Ca q z => by
      obtain ⟨q1, q2, fd, q3⟩ := w.ws.meth C m f Ca q z
      exact ⟨q1, q2, fd, q3, w.run f fd q3⟩
    exact PE.eqv (fun ρ => by rw [evalE]) (de_meth b.tk w.clo w.ws.nm key (w.room.mono (Nat.le_succ _)) (sndE x w b x' h5) h1 h2 h3 h4 (fun z => sndN es (by rw [z] at h6; exact h6)) (sndEs es w b es' h2 h6))
  | .lso x, X, W, sc, w, b, e, h => by
    obtain ⟨y, p2, x', p, rfl, rfl, h1, h2, h3⟩ := inv_lso h
    exact PE.eqv (fun ρ => by rw [evalE]) (de_lso w.calm (w.room.mono (by have := w.two; omega)) w.ws.nm w.ws.itf w.ws.itn.1 (gloB_ok b h1) w.ws.itn.2 h2 (sndE x w b x' h3))
  | .app i x, X, W, sc, w, b, e, h => by
    obtain ⟨y, p3, m, p2, x', p, rfl, rfl, h1, h2, h3, h4⟩ := inv_app h
    obtain ⟨q1, q2, q3, q4⟩ := varB_ok b h1
    exact PE.eqv (fun ρ => by rw [evalE]) (de_app q1 q2 q3 q4 h2 h3 (sndE x w b x' h4))
  | .pop i, X, W, sc, w, b, e, h => by
    obtain ⟨y, p3, m, p2, p, rfl, rfl, h1, h3⟩ := inv_pop h
    obtain ⟨q1, q2, q3, q4⟩ := varB_ok b h1
    exact PE.eqv (fun ρ => by rw [evalE]) (de_pop q1 q2 q3 q4 h3)
  | .popAt i x, X, W, sc, w, b, e, h => by
    obtain ⟨y, p3, m, p2, x', p, rfl, rfl, h1, h2, h3, h4⟩ := inv_popAt h
    obtain ⟨q1, q2, q3, q4⟩ := varB_ok b h1
    exact PE.eqv (fun ρ => by rw [evalE]) (de_popAt q1 q2 q3 q4 h2 h3 (sndE x w b x' h4))
  | .comp x tg src cond, X, W, sc, w, b, e, h => by
    obtain ⟨x', tg', it', ifs, k', scope, p, rfl, rfl, h1, h2, h3, h4, h5, h6⟩ := inv_comp h
    have pif : ∀ (s : Shared) (H : Hp) (C : Addr) (cl2 : List (Str × Addr)) (fp : List Addr), PTs (X.blk s H scope (compEnvC scope cl2 C X.env) fp) ifs (tT N noW (evalT T cl cond)) := fun s H C cl2 fp => by
      cases ifs with
      | nil => exact if_none h5
      | cons c' r =>
        cases r with
        | nil => exact dts_one (sndT cond w.blk b.blk c' h5).1
        | cons _ _ => cases h5
    exact PE.eqv (fun ρ => by rw [evalE]) (de_comp w.calm (by rw [b.nn]; exact b.nd) (sndSrc src w b tg' it' h2) (blkB_ok b h3) own_map
      (fun s H C cl2 fp => sndG (X := X.blk s H scope (compEnvC scope cl2 C X.env) fp) (W := noW) (df := false) w.calm b.blk (fun z => by cases z) tg tg' h4) pif (fun s H C cl2 fp => sndE x w.blk b.blk x' h6) h1)
theorem sndT : ∀ (c : Ex) {X : Cx} {W : WX} {sc : Scope} (w : Wd X N T M cl fad k) (b : Bd X W NN sc) (e : Expr), chkE NN N.fld M sc c e = true → PT X e (tT N W (evalT T cl c)) ∧ ((∃ op es p, e = .BoolOp op es p) → PW X e (tT N W (evalT T cl c)))
  | .and x y, X, W, sc, w, b, e, h => by
    have : PW X e (tT N W (evalT T cl (.and x y))) := by
      rcases inv_and h with ⟨x', y', p, rfl, h1, h2⟩ | ⟨x', y', z', r, p, rfl, h1, h2⟩
      · exact PW.eqv (fun ρ => by rw [evalT]) (dt_and (sndT x w b x' h1).1 (pw_and1 (sndT y w b y' h2).1))
      · exact PW.eqv (fun ρ => by rw [evalT]) (dt_and (sndT x w b x' h1).1 ((sndT y w b _ h2).2 ⟨_, _, _, rfl⟩))
    exact ⟨this.pt, fun _ => this⟩
  | .or x y, X, W, sc, w, b, e, h => by
    have : PW X e (tT N W (evalT T cl (.or x y))) := by
      rcases inv_or h with ⟨x', y', p, rfl, h1, h2⟩ | ⟨x', y', z', r, p, rfl, h1, h2⟩
      · exact PW.eqv (fun ρ => by rw [evalT]) (dt_or (sndT x w b x' h1).1 (pw_or1 (sndT y w b y' h2).1))
      · exact PW.eqv (fun ρ => by rw [evalT]) (dt_or (sndT x w b x' h1).1 ((sndT y w b _ h2).2 ⟨_, _, _, rfl⟩))
    exact ⟨this.pt, fun _ => this⟩
  | .nt x, X, W, sc, w, b, e, h => by
    obtain ⟨x', p, rfl, h1⟩ := inv_nt h
    exact ⟨PT.eqv (fun ρ => by rw [evalT]) (dt_not (sndT x w b x' h1).1), fun ⟨_, _, _, q⟩ => nomatch q⟩
  | .var i, X, W, sc, w, b, e, h => by
    obtain ⟨x, p, rfl, h1⟩ := inv_var h
    obtain ⟨q1, q2, q3, q4⟩ := varB_ok b h1
    have he := de_var (N := N) (W := W) (pos := p) q1 q2 q3 q4
    exact ⟨PT.eqv (fun ρ => by rw [evalT]) (dt_of (fun _ => rfl) he), fun ⟨_, _, _, q⟩ => nomatch q⟩
  | .cmp op x y, X, W, sc, w, b, e, h => by
    obtain ⟨x', op', y', p, rfl, rfl, h0, h1, h2⟩ := inv_cmp h
    exact ⟨PT.eqv (fun ρ => by first | (rw [evalT]; done) | (rw [evalT]; rfl)) (dt_cmp w.room.units h0 (sndE x w b x' h1) (sndE y w b y' h2)), fun ⟨_, _, _, q⟩ => nomatch q⟩
  | .cmp2 op op2 x y z, X, W, sc, w, b, e, h => by
    obtain ⟨x', op', op2', y', z', p, rfl, rfl, rfl, h0, h1, h2, h3⟩ := inv_cmp2 h
    exact ⟨PT.eqv (fun ρ => by first | (rw [evalT]; done) | (rw [evalT]; rfl)) (dt_chain w.room.units h0 (sndE x w b x' h1) (sndE y w b y' h2) (sndE z w b z' h3)), fun ⟨_, _, _, q⟩ => nomatch q⟩
  | .call f es, X, W, sc, w, b, e, h => by
    have he : PE X e (tE N W fun ρ => (evalEs T cl es ρ).bind fun rs ρ => callD T cl f rs ρ) := by
      obtain ⟨x, p2, es', p, rfl, h1, h2, h3, h4, h5⟩ := inv_call h
      obtain ⟨e1, e2, fd, e3⟩ := w.ws.fn f x h2
      exact de_call b.tk w.clo e3 (w.run f fd e3) (w.room.mono (Nat.le_succ _)) (gloB_ok b h1) e1 e2 (okN_ok h3).1 h4 (fun z => sndN es (by rw [z] at h5; exact h5)) (sndEs es w b es' h4 h5)
    obtain ⟨x, p2, es', p, rfl, _⟩ := inv_call h
    exact ⟨PT.eqv (fun ρ => by rw [evalT]) (dt_of (fun _ => rfl) he), fun ⟨_, _, _, q⟩ => nomatch q⟩
  | .isi x t, X, W, sc, w, b, e, h => by
    obtain ⟨y, p2, x', q, p3, p, rfl, rfl, h1, h2, h3, h4, h5, h6⟩ := inv_isi h
    obtain ⟨cv, e1, e2⟩ := pe_cls w b h2 h3 h4
    exact ⟨PT.eqv (fun ρ => by rw [evalT]) (dt_of (fun _ => rfl) (de_isi (gloB_ok b h1) w.ws.nam.1 (fun C Ca q z => w.ws.inst C Ca t q z) (fun k' b' z => w.ws.kit k' t b' z) e1 e2 h5 rfl (sndE x w b x' h6))), fun ⟨_, _, _, q⟩ => nomatch q⟩
  | .bi y es, X, W, sc, w, b, e, h => by
    obtain ⟨x, p2, e', es', p, rfl, h1, rfl, hb, h3, h4⟩ := inv_bi h
    obtain ⟨e1, e2, e3⟩ := w.ws.bi y hb
    exact ⟨PT.eqv (fun ρ => by rw [evalT]) (dt_of (fun _ => rfl) (de_bi w.calm (gloB_ok b h1) e2 e3 e1 h3 (sndEs es w b _ h3 h4))), fun ⟨_, _, _, q⟩ => nomatch q⟩
  | .bin op x y, X, W, sc, w, b, e, h => by
    obtain ⟨x', op', y', p, rfl, rfl, h1, h2⟩ := inv_bin h
    exact ⟨PT.eqv (fun ρ => by rw [evalT]) (dt_of (fun _ => rfl) (de_bin (sndE x w b x' h1) (sndE y w b y' h2))), fun ⟨_, _, _, q⟩ => nomatch q⟩
  | .att x f, X, W, sc, w, b, e, h => by
    obtain ⟨x', y, p, rfl, rfl, h1, h2⟩ := inv_att h
    exact ⟨PT.eqv (fun ρ => by rw [evalT]) (dt_of (fun _ => rfl) (de_att w.ws.nm (fun C Ca q z => w.ws.fld C Ca f q z) (fun C Ca d q z => w.ws.icon C Ca f d q z) h1 (sndE x w b x' h2))), fun ⟨_, _, _, q⟩ => nomatch q⟩
  | .mth x m es, X, W, sc, w, b, e, h => by
    obtain ⟨x', y, p2, es', p, rfl, rfl, h1, h2, h3, h4, h5, h6⟩ := inv_mth h
    have key : ∀ C f Ca, T.meth C m = some f → N.cls C = some Ca → Cls X.K Ca ∧ Meth X.K Ca (N.fld m) (fad f) ∧ ∃ fd, T.fn f = some fd ∧ FnR X.prog X.w X.K X.mg X.base (L2.CX X.prog X.w) k (fad f) (spC N fd (cl f)) := fun C f Ca q z => by
      obtain ⟨q1, q2, fd, q3⟩ := w.ws.meth C m f Ca q z
      exact ⟨q1, q2, fd, q3, w.run f fd q3⟩
    exact ⟨PT.eqv (fun ρ => by rw [evalT]) (dt_of (fun _ => rfl) (de_meth b.tk w.clo w.ws.nm key (w.room.mono (Nat.le_succ _)) (sndE x w b x' h5) h1 h2 h3 h4 (fun z => sndN es (by rw [z] at h6; exact h6)) (sndEs es w b es' h2 h6))), fun ⟨_, _, _, q⟩ => nomatch q⟩
  | .bl v, X, W, sc, w, b, e, h => by
    have he : PE X e (tE N W fun ρ => .ok (.val (.bl v)) ρ) := by
      obtain ⟨c, j, p, rfl, rfl⟩ := inv_bl h
      exact de_const (d := .bl _) (fun _ _ => rfl) pe_bl
    obtain ⟨c, j, p, rfl, rfl⟩ := inv_bl h
    exact ⟨PT.eqv (fun ρ => by first | (rw [evalT]; done) | (rw [evalT]; rfl)) (dt_of (fun _ => rfl) he), fun ⟨_, _, _, q⟩ => nomatch q⟩
  | .never, X, W, sc, w, b, e, h => by
    have q : ∀ ρ, evalT T cl .never ρ = .stuck := fun ρ => by rw [evalT] <;> (intros; contradiction)
    exact ⟨pt_stuck q, fun _ => pw_stuck q⟩
  | .non, X, W, sc, w, b, e, h => ⟨pt_stuck fun ρ => by rw [evalT] <;> (intros; contradiction), fun ⟨_, _, _, q⟩ => by obtain ⟨j, p, rfl⟩ := inv_non h; cases q⟩
  | .int i, X, W, sc, w, b, e, h => ⟨pt_stuck fun ρ => by rw [evalT] <;> (intros; contradiction), fun ⟨_, _, _, q⟩ => by obtain ⟨c, j, p, rfl, _⟩ := inv_int h; cases q⟩
  | .str i, X, W, sc, w, b, e, h => ⟨pt_stuck fun ρ => by rw [evalT] <;> (intros; contradiction), fun ⟨_, _, _, q⟩ => by obtain ⟨c, j, p, rfl, _⟩ := inv_str h; cases q⟩
  | .glo i, X, W, sc, w, b, e, h => ⟨pt_stuck fun ρ => by rw [evalT] <;> (intros; contradiction), fun ⟨_, _, _, q⟩ => by obtain ⟨c, j, rfl, _⟩ := inv_glo h; cases q⟩
  | .neg x, X, W, sc, w, b, e, h => ⟨pt_stuck fun ρ => by rw [evalT] <;> (intros; contradiction), fun ⟨_, _, _, q⟩ => by obtain ⟨c, j, rfl, _⟩ := inv_neg h; cases q⟩
  | .inv x, X, W, sc, w, b, e, h => ⟨pt_stuck fun ρ => by rw [evalT] <;> (intros; contradiction), fun ⟨_, _, _, q⟩ => by obtain ⟨c, j, rfl, _⟩ := inv_inv h; cases q⟩
  | .ite q x y, X, W, sc, w, b, e, h => ⟨pt_stuck fun ρ => by rw [evalT] <;> (intros; contradiction), fun ⟨_, _, _, q⟩ => by obtain ⟨_, _, _, _, rfl, _⟩ := inv_ite h; cases q⟩
  | .tup es, X, W, sc, w, b, e, h => ⟨pt_stuck fun ρ => by rw [evalT] <;> (intros; contradiction), fun ⟨_, _, _, q⟩ => by obtain ⟨_, _, _, rfl, _⟩ := inv_tup h; cases q⟩
  | .lst es, X, W, sc, w, b, e, h => ⟨pt_stuck fun ρ => by rw [evalT] <;> (intros; contradiction), fun ⟨_, _, _, q⟩ => by obtain ⟨_, _, rfl, _⟩ := inv_lst h; cases q⟩
  | .sub x y, X, W, sc, w, b, e, h => ⟨pt_stuck fun ρ => by rw [evalT] <;> (intros; contradiction), fun ⟨_, _, _, q⟩ => by obtain ⟨_, _, _, rfl, _⟩ := inv_sub h; cases q⟩
  | .slc x y z, X, W, sc, w, b, e, h => ⟨pt_stuck fun ρ => by rw [evalT] <;> (intros; contradiction), fun ⟨_, _, _, q⟩ => by obtain ⟨_, _, _, _, _, rfl, _⟩ := inv_slc h; cases q⟩
  | .ccon x y, X, W, sc, w, b, e, h => ⟨pt_stuck fun ρ => by rw [evalT] <;> (intros; contradiction), fun ⟨_, _, _, q⟩ => by obtain ⟨_, _, _, _, rfl, _⟩ := inv_ccon h; cases q⟩
  | .new x y, X, W, sc, w, b, e, h => ⟨pt_stuck fun ρ => by rw [evalT] <;> (intros; contradiction), fun ⟨_, _, _, q⟩ => by obtain ⟨_, _, _, _, rfl, _⟩ := inv_new h; cases q⟩
  | .bm m x y, X, W, sc, w, b, e, h => ⟨pt_stuck fun ρ => by rw [evalT] <;> (intros; contradiction), fun ⟨_, _, _, q⟩ => by obtain ⟨_, _, _, _, rfl, _⟩ := inv_bm h; cases q⟩
  | .lso x, X, W, sc, w, b, e, h => ⟨pt_stuck fun ρ => by rw [evalT] <;> (intros; contradiction), fun ⟨_, _, _, q⟩ => by obtain ⟨_, _, _, _, rfl, _⟩ := inv_lso h; cases q⟩
  | .app m x, X, W, sc, w, b, e, h => ⟨pt_stuck fun ρ => by rw [evalT] <;> (intros; contradiction), fun ⟨_, _, _, q⟩ => by obtain ⟨_, _, _, _, _, _, rfl, _⟩ := inv_app h; cases q⟩
  | .pop m, X, W, sc, w, b, e, h => ⟨pt_stuck fun ρ => by rw [evalT] <;> (intros; contradiction), fun ⟨_, _, _, q⟩ => by obtain ⟨_, _, _, _, _, rfl, _⟩ := inv_pop h; cases q⟩
  | .popAt m x, X, W, sc, w, b, e, h => ⟨pt_stuck fun ρ => by rw [evalT] <;> (intros; contradiction), fun ⟨_, _, _, q⟩ => by obtain ⟨_, _, _, _, _, _, rfl, _⟩ := inv_popAt h; cases q⟩
  | .comp x tg src cond, X, W, sc, w, b, e, h => ⟨pt_stuck fun ρ => by rw [evalT] <;> (intros; contradiction), fun ⟨_, _, _, q⟩ => by obtain ⟨_, _, _, _, _, _, _, rfl, _⟩ := inv_comp h; cases q⟩
theorem sndEs : ∀ (cs : Exs) {X : Cx} {W : WX} {sc : Scope} (w : Wd X N T M cl fad k) (b : Bd X W NN sc) (es : List Expr), es.all notStar = true → chkEs NN N.fld M sc cs es = true → PA X es (tA N W (evalEs T cl cs))
  | .nil, X, W, sc, w, b, es, hs, h => by
    cases es with
    | cons _ _ => simp only [chkEs, Bool.false_eq_true] at h
    | nil => exact PA.eqv (fun ρ => by rw [evalEs]) da_nil
  | .cons c cs, X, W, sc, w, b, es, hs, h => by
    cases es with
    | nil => simp only [chkEs, Bool.false_eq_true] at h
    | cons e es =>
      simp only [chkEs, Bool.and_eq_true] at h
      rw [List.all_cons, Bool.and_eq_true] at hs
      exact PA.eqv (fun ρ => by rw [evalEs]) (da_cons hs.1 (sndE c w b e h.1) (sndEs cs w b es hs.2 h.2))
theorem sndN : ∀ (cs : Exs) {sc : Scope}, chkEs NN N.fld M sc cs [] = true → evalEs T cl cs = fun ρ => .ok [] ρ
  | .nil, sc, h => by funext ρ; rw [evalEs]
  | .cons c cs, sc, h => by simp only [chkEs, Bool.false_eq_true] at h
theorem sndSrc : ∀ (c : Src) {X : Cx} {W : WX} {sc : Scope} (w : Wd X N T M cl fad k) (b : Bd X W NN sc) (tg e : Expr), chkSrc NN N.fld M sc c tg e = true → PI X tg e (tI N W (evalSrc T cl c))
  | .of c, X, W, sc, w, b, tg, e, h => by
    simp only [chkSrc] at h
    exact PI.eqv (fun ρ => by first | (rw [evalSrc]; done) | (rw [evalSrc]; rfl)) (di_of (sndE c w b e h))
  | .range1 x, X, W, sc, w, b, tg, e, h => by
    unfold chkSrc at h
    split at h <;> first | (rename_i q; cases q; done) | (cases h; done) | skip
    rename_i hq
    cases hq
    simp only [Bool.and_eq_true, decide_eq_true_eq] at h
    obtain ⟨⟨⟨rfl, h1⟩, h2⟩, h3⟩ := h
    exact PI.eqv (fun ρ => by first | (rw [evalSrc]; done) | (rw [evalSrc]; rfl)) (di_range1 (gloB_ok b h1) w.ws.nam.2.1 h2 (sndE x w b _ h3))
  | .range2 x y, X, W, sc, w, b, tg, e, h => by
    unfold chkSrc at h
    split at h <;> first | (rename_i q; cases q; done) | (cases h; done) | skip
    rename_i hq
    cases hq
    simp only [Bool.and_eq_true, decide_eq_true_eq] at h
    obtain ⟨⟨⟨⟨⟨rfl, h1⟩, h2⟩, h2'⟩, h3⟩, h4⟩ := h
    exact PI.eqv (fun ρ => by first | (rw [evalSrc]; done) | (rw [evalSrc]; rfl)) (di_range2 (gloB_ok b h1) w.ws.nam.2.1 h2 h2' (sndE x w b _ h3) (sndE y w b _ h4))
  | .enum x, X, W, sc, w, b, tg, e, h => by
    unfold chkSrc at h
    split at h <;> first | (rename_i q; cases q; done) | (cases h; done) | skip
    rename_i hq
    cases hq
    simp only [Bool.and_eq_true, decide_eq_true_eq] at h
    obtain ⟨⟨⟨rfl, h1⟩, h2⟩, h3⟩ := h
    exact PI.eqv (fun ρ => by first | (rw [evalSrc]; done) | (rw [evalSrc]; rfl)) (di_enum (gloB_ok b h1) w.ws.nam.2.2.1 h2 (sndE x w b _ h3))
  | .zip x y, X, W, sc, w, b, tg, e, h => by
    unfold chkSrc at h
    split at h <;> first | (rename_i q; cases q; done) | (cases h; done) | skip
    rename_i hq
    cases hq
    simp only [Bool.and_eq_true, decide_eq_true_eq] at h
    obtain ⟨⟨⟨⟨⟨rfl, h1⟩, h2⟩, h2'⟩, h3⟩, h4⟩ := h
    exact PI.eqv (fun ρ => by first | (rw [evalSrc]; done) | (rw [evalSrc]; rfl)) (di_zip (gloB_ok b h1) w.ws.nam.2.2.2.1 h2 h2' (sndE x w b _ h3) (sndE y w b _ h4))
  | .rev x, X, W, sc, w, b, tg, e, h => by
    unfold chkSrc at h
    split at h <;> first | (rename_i q; cases q; done) | (cases h; done) | skip
    rename_i hq
    cases hq
    simp only [Bool.and_eq_true, decide_eq_true_eq] at h
    obtain ⟨⟨⟨rfl, h1⟩, h2⟩, h3⟩ := h
    exact PI.eqv (fun ρ => by first | (rw [evalSrc]; done) | (rw [evalSrc]; rfl)) (di_rev (gloB_ok b h1) w.ws.nam.2.2.2.2 h2 (sndE x w b _ h3))
end
end
end Wf

/-! Wf: the small code does what the text does: statements, defs -/
namespace Wf
open PySem PySem.Spec PyProof.Rows L2
/-- a comprehension that is stored at once (the kit's ps_setLc) or not -/
def swapB (sc : Scope) (x : Str) (px : Pos) (spos : Pos) : Expr → Bool
  | .ListComp _ _ scope p => decide (sc.names.lookup x = some .local) && (px.line == p.line) && !(scope.names.any fun (n, k) => n == x && (k == .local || k == .cell))
  | _ => false
def notTup : Expr → Bool
  | .Tuple .. => false
  | _ => true
section
variable (NN : List Str) (fl : Nat → Str) (M : Nam)
mutual
def chkS (sc : Scope) : Stm → Stmt → Bool
  | .never, _ => true
  | .expr e, .Expr e' _ => plainV e' && chkE NN fl M sc e e'
  | .set i e, .Assign [.Name x px] e' p => decide (NN[i]? = some x) && locB sc x && (plainV e' || swapB sc x px p e') && chkE NN fl M sc e e'
  | .hold i e, .Assign [.Name x px] e' p => decide (NN[i]? = some x) && locB sc x && (plainV e' || swapB sc x px p e') && chkE NN fl M sc e e'
  | .setsub i k e, .Assign [.Subscript (.Name x _) k' _] e' _ => varB NN sc i x && notSlice k' && plainV e' && chkE NN fl M sc k k' && chkE NN fl M sc e e'
  | .setatt i f e, .Assign [.Attribute (.Name x _) y _] e' _ => varB NN sc i x && decide (y = fl f) && plainV e' && chkE NN fl M sc e e'
  | .unpack tg e, .Assign [.Tuple es n p] e' _ => notTup e' && plainV e' && chkG NN sc true tg (.Tuple es n p) && chkE NN fl M sc e e'
  | .ite c a b, .If c' a' b' _ => chkE NN fl M sc c c' && chkSs sc a a' && chkSs sc b b'
  | .for_ tg src body, .For tg' it' body' [] _ => notSetE it' && chkSrc NN fl M sc src tg' it' && chkG NN sc true tg tg' && chkSs sc body body'
  | .while_ c body, .While c' body' [] _ => chkE NN fl M sc c c' && chkSs sc body body'
  | .ret e, .Return (some e') _ => chkE NN fl M sc e e'
  | .retN, .Return none _ => true
  | .pass, .Pass _ => true
  | .pass, .Expr (.Constant (.str _) _ _) _ => true
  | .brk, .Break _ => true
  | .cnt, .Continue _ => true
  | _, _ => false
def chkSs (sc : Scope) : Stms → List Stmt → Bool
  | .nil, [] => true
  | .cons s r, st :: rest => chkS sc s st && chkSs sc r rest
  | _, _ => false
end
end
section
variable {X : Cx} {N : Nm} {W : WX} {T : Tab} {M : Nam} {cl : Cl} {fad : Nat → Addr} {k : Nat} {NN : List Str} {sc : Scope}
theorem PS.eqv {e : Stmt} {f g : Env → SOut} (h : ∀ ρ, f ρ = g ρ) (p : PS X e (tS N W g)) : PS X e (tS N W f) := by
  have : f = g := funext h
  rw [this]; exact p
theorem PSs.eqv {e : List Stmt} {f g : Env → SOut} (h : ∀ ρ, f ρ = g ρ) (p : PSs X e (tS N W g)) : PSs X e (tS N W f) := by
  have : f = g := funext h
  rw [this]; exact p
theorem tuple_unswapped {es : List Expr} {n : Nat} {p : Pos} {e : Expr} {env : PySem.Env} (h : notTup e = true) : swappedStores [.Tuple es n p] e env = pure none := by
  cases e <;> first | rfl | cases h
theorem assign_sub {o i : Expr} {ps : Pos} {env : PySem.Env} (h : notSlice i = true) : ∀ v, assign (.Subscript o i ps) env v = (do
      let ov ← holding [v] (eval o env)
      let iv ← holding [v, ov] (eval i env)
      standAt ps
      holding [v, ov, iv] (setItem ov iv v)
      release [v, ov, iv] []) := by
  intro v
  cases i <;> first | rfl | (simp only [notSlice, Bool.false_eq_true] at h)
/-- the store of a value or of a comprehension -/
theorem asg_any {i : Nat} {x : Str} {e : Expr} {c : Ex} {px p : Pos} {g : Env → SOut} (w : Wd X N T M cl fad k) (b : Bd X W NN sc) (hf : ∀ x, X.fn x = true) (hX : X.env.blockKind = .function) (h1 : NN[i]? = some x) (h2 : locB sc x = true) (h3 : plainV e = true ∨ swapB sc x px p e = true) (h4 : chkE NN N.fld M sc c e = true)
    (rd : ∀ {E : Ends} {σ : Sg} {H : Hp}, tS N W g E σ H → tAsg (tE N W (evalE T cl c)) (gName i) E σ H) : PS X (.Assign [.Name x px] e p) (tS N W g) := by
  have hNi : X.N[i]? = some x := by rw [b.nn]; exact h1
  have hNd : X.N.Nodup := by rw [b.nn]; exact b.nd
  rcases h3 with h3 | h3
  · exact ⟨fun pins s σ H E I h => (ps_set hNd hNi (locB_ok b h2) (sndE c w b e h4) (swaps_plain h3) (.inl (hf x))).run pins s σ H E I (rd h)⟩
  · cases e <;> first | (simp only [swapB, Bool.false_eq_true] at h3; done) | skip
    rename_i elt gens scope lp
    simp only [swapB, Bool.and_eq_true, decide_eq_true_eq] at h3
    obtain ⟨⟨h5, h6⟩, h7⟩ := h3
    have hl : X.env.scope.names.lookup x = some .local := by rw [b.scp]; exact h5
    cases c <;> first | (simp only [chkE, Bool.false_eq_true] at h4; done) | skip
    rotate_left
    · exact ⟨fun pins s σ H E I h => by obtain ⟨G, ρ, S, q⟩ := rd h; rw [evalE] at q; exact q.elim⟩
    rename_i ce ctg csrc ccond
    obtain ⟨x', tg', it', ifs, k', sc', p', e1, rfl, q1, q2, q3, q4, q5, q6⟩ := inv_comp h4
    cases e1
    have hsw : swapsWith (.ListComp elt [⟨tg', it', ifs, 0⟩] scope lp) (some (.Name x px)) p.line X.env = pure true := by
      show (pure (X.env.blockKind == .function && X.env.kindOf x == some .local && px.line == lp.line && !(scope.names.any fun (n, k) => n == x && (k == .local || k == .cell))) : Sem Bool) = pure true
      rw [hX, show X.env.kindOf x = some .local from hl, h6, h7]
      try rfl
    have pif : ∀ (s : Shared) (H : Hp) (C : Addr) (cl2 : List (Str × Addr)) (fp : List Addr), PTs (X.blk s H scope (compEnvC scope cl2 C X.env) fp) ifs (tT N noW (evalT T cl ccond)) := fun s H C cl2 fp => by
      cases ifs with
      | nil => exact if_none q5
      | cons c' r =>
        cases r with
        | nil => exact dts_one (sndT ccond w.blk b.blk c' q5).1
        | cons _ _ => cases q5
    refine ⟨fun pins s σ H E I h => (ps_setLc w.calm hNd hNi hl hsw (sndSrc csrc w b tg' it' q2) (blkB_ok b q3)
      (fun s H C cl2 fp => sndG (N := N) (X := X.blk s H scope (compEnvC scope cl2 C X.env) fp) (W := noW) (df := false) w.calm b.blk (fun z => by cases z) ctg tg' q4) pif (fun s H C cl2 fp => sndE ce w.blk b.blk elt q6) (folded_plain q1)).run pins s σ H E I ?_⟩
    rw [own_map]
    have h8 := rd h
    unfold tAsg at h8 ⊢
    have : evalE T cl (.comp ce ctg csrc ccond) = fun ρ => (evalSrc T cl csrc ρ).bind fun items ρ0 => if (slotsT ctg).all (freeSlot ρ0) then (compLoop (bindT ctg) (evalT T cl ccond) (evalE T cl ce) (slotsT ctg) items [] (clear (slotsT ctg) ρ0)).bind fun ds ρ => .ok (.own (.lst ds)) (restore ρ0 (slotsT ctg) ρ) else .stuck := by
      funext ρ; rw [evalE]
    rw [this] at h8
    exact comp_read h8
/-- what a def's body needs -/
structure Fb (X : Cx) : Prop where
  fn : ∀ x, X.fn x = true
  bk : X.env.blockKind = .function
  po : PassesOwn (model X.prog X.w) X.A X.env X.xe
mutual
theorem sndS : ∀ (c : Stm) {W : WX} (w : Wd X N T M cl fad k) (b : Bd X W NN sc) (fb : Fb X) (st : Stmt), chkS NN N.fld M sc c st = true → PS X st (tS N W (evalS T cl c))
  | .expr e, W, w, b, fb, st, h => by
    unfold chkS at h
    split at h <;> first | (rename_i q; cases q; done) | (cases h; done) | skip
    rename_i hq
    cases hq
    rw [Bool.and_eq_true] at h
    exact PS.eqv (fun ρ => by rw [evalS]) (ds_expr h.1 (sndE e w b _ h.2))
  | .set i e, W, w, b, fb, st, h => by
    unfold chkS at h
    split at h <;> first | (rename_i q; cases q; done) | (cases h; done) | skip
    rename_i hq
    cases hq
    simp only [Bool.and_eq_true, decide_eq_true_eq, Bool.or_eq_true] at h
    obtain ⟨⟨⟨h1, h2⟩, h3⟩, h4⟩ := h
    exact asg_any w b fb.fn fb.bk h1 h2 h3 h4 fun {E σ H} h => by
      refine set_read ?_
      have : evalS T cl (.set i e) = fun ρ => (evalE T cl e ρ).st fun r ρ => (match toVal ρ r with
        | some (d, ρ) => (match asg i (.val d) ρ with | some ρ => .nx ρ | none => .stuck)
        | none => .stuck) := by funext ρ; first | (rw [evalS]; done) | (rw [evalS]; rfl)
      rw [this] at h; exact h
  | .hold i e, W, w, b, fb, st, h => by
    unfold chkS at h
    split at h <;> first | (rename_i q; cases q; done) | (cases h; done) | skip
    rename_i hq
    cases hq
    simp only [Bool.and_eq_true, decide_eq_true_eq, Bool.or_eq_true] at h
    obtain ⟨⟨⟨h1, h2⟩, h3⟩, h4⟩ := h
    exact asg_any w b fb.fn fb.bk h1 h2 h3 h4 fun {E σ H} h => by
      refine hold_read ?_
      have : evalS T cl (.hold i e) = fun ρ => (evalE T cl e ρ).st fun r ρ => (match r with
        | .own d => (match asg i (.own d) ρ with | some ρ => .nx ρ | none => .stuck)
        | .val d => (match asg i (.val d) ρ with | some ρ => .nx ρ | none => .stuck)
        | .bor _ => .stuck) := by funext ρ; first | (rw [evalS]; done) | (rw [evalS]; rfl)
      rw [this] at h; exact h
  | .setsub i kk e, W, w, b, fb, st, h => by
    unfold chkS at h
    split at h <;> first | (rename_i q; cases q; done) | (cases h; done) | skip
    rename_i hq
    cases hq
    simp only [Bool.and_eq_true] at h
    obtain ⟨⟨⟨⟨h1, h2⟩, h3⟩, h4⟩, h5⟩ := h
    obtain ⟨q1, q2, q3, q4⟩ := varB_ok b h1
    refine PS.eqv (fun ρ => by first | (rw [evalS]; done) | (rw [evalS]; rfl)) (ds_setsub q1 q2 q3 q4 h3 (sndE kk w b _ h4) (sndE e w b _ h5) (assign_sub h2))
  | .setatt i f e, W, w, b, fb, st, h => by
    unfold chkS at h
    split at h <;> first | (rename_i q; cases q; done) | (cases h; done) | skip
    rename_i hq
    cases hq
    simp only [Bool.and_eq_true, decide_eq_true_eq] at h
    obtain ⟨⟨⟨h1, rfl⟩, h3⟩, h4⟩ := h
    obtain ⟨q1, q2, q3, q4⟩ := varB_ok b h1
    exact PS.eqv (fun ρ => by first | (rw [evalS]; done) | (rw [evalS]; rfl)) (ds_setatt w.ws.nm q1 q2 q3 q4 (fun C Ca q z => w.ws.fld C Ca f q z) h3 (sndE e w b _ h4))
  | .unpack tg e, W, w, b, fb, st, h => by
    unfold chkS at h
    split at h <;> first | (rename_i q; cases q; done) | (cases h; done) | skip
    rename_i hq
    cases hq
    simp only [Bool.and_eq_true] at h
    obtain ⟨⟨⟨h1, h2⟩, h3⟩, h4⟩ := h
    exact PS.eqv (fun ρ => by first | (rw [evalS]; done) | (rw [evalS]; rfl)) (ds_unpack (sndG w.calm b (fun _ => fb.fn) tg _ h3) rfl h2 (tuple_unswapped h1) (sndE e w b _ h4))
  | .ite c x y, W, w, b, fb, st, h => by
    unfold chkS at h
    split at h <;> first | (rename_i q; cases q; done) | (cases h; done) | skip
    rename_i hq
    cases hq
    simp only [Bool.and_eq_true] at h
    exact PS.eqv (fun ρ => by rw [evalS]) (ds_if (sndT c w b _ h.1.1).1 (sndSs x w b fb _ h.1.2) (sndSs y w b fb _ h.2))
  | .for_ tg src body, W, w, b, fb, st, h => by
    unfold chkS at h
    split at h <;> first | (rename_i q; cases q; done) | (cases h; done) | skip
    rename_i hq
    cases hq
    simp only [Bool.and_eq_true] at h
    obtain ⟨⟨⟨h1, h2⟩, h3⟩, h4⟩ := h
    exact PS.eqv (fun ρ => by rw [evalS]) (ds_for fb.po w.calm (sndSrc src w b _ _ h2) (sndG w.calm b (fun _ => fb.fn) tg _ h3) (sndSs body w b fb _ h4) h1)
  | .while_ c body, W, w, b, fb, st, h => by
    unfold chkS at h
    split at h <;> first | (rename_i q; cases q; done) | (cases h; done) | skip
    rename_i hq
    cases hq
    simp only [Bool.and_eq_true] at h
    exact PS.eqv (fun ρ => by rw [evalS]) (ds_while fb.po (sndT c w b _ h.1).1 (sndSs body w b fb _ h.2))
  | .ret e, W, w, b, fb, st, h => by
    unfold chkS at h
    split at h <;> first | (rename_i q; cases q; done) | (cases h; done) | skip
    rename_i hq
    cases hq
    exact PS.eqv (fun ρ => by rw [evalS]) (ds_ret (sndE e w b _ h))
  | .retN, W, w, b, fb, st, h => by
    unfold chkS at h
    split at h <;> first | (rename_i q; cases q; done) | (cases h; done) | skip
    exact PS.eqv (fun ρ => by rw [evalS]) ds_retN
  | .pass, W, w, b, fb, st, h => by
    unfold chkS at h
    split at h <;> first | (rename_i q; cases q; done) | (cases h; done) | skip
    · exact PS.eqv (fun ρ => by rw [evalS]) ds_pass
    · exact PS.eqv (fun ρ => by rw [evalS]) ds_doc
  | .brk, W, w, b, fb, st, h => by
    unfold chkS at h
    split at h <;> first | (rename_i q; cases q; done) | (cases h; done) | skip
    exact PS.eqv (fun ρ => by rw [evalS]) ds_break
  | .cnt, W, w, b, fb, st, h => by
    unfold chkS at h
    split at h <;> first | (rename_i q; cases q; done) | (cases h; done) | skip
    exact PS.eqv (fun ρ => by rw [evalS]) ds_continue
  | .never, W, w, b, fb, st, h => PS.eqv (fun ρ => by rw [evalS]) ds_never
  | .raise C es, W, w, b, fb, st, h => by
    unfold chkS at h
    cases h
  | .try_ x y z u, W, w, b, fb, st, h => by
    unfold chkS at h
    cases h
theorem sndSs : ∀ (cs : Stms) {W : WX} (w : Wd X N T M cl fad k) (b : Bd X W NN sc) (fb : Fb X) (sts : List Stmt), chkSs NN N.fld M sc cs sts = true → PSs X sts (tS N W (evalSs T cl cs))
  | .nil, W, w, b, fb, sts, h => by
    cases sts with
    | cons _ _ => simp only [chkSs, Bool.false_eq_true] at h
    | nil => exact PSs.eqv (fun ρ => by rw [evalSs]) ds_nil
  | .cons c cs, W, w, b, fb, sts, h => by
    cases sts with
    | nil => simp only [chkSs, Bool.false_eq_true] at h
    | cons st sts =>
      simp only [chkSs, Bool.and_eq_true] at h
      exact PSs.eqv (fun ρ => by first | (rw [evalSs]; done) | (rw [evalSs]; rfl)) (ds_cons (sndS c w b fb st h.1) (sndSs cs w b fb sts h.2))
end
end
end Wf

/-! Wf: every def keeps its promise -/
namespace Wf
open PySem PySem.Spec PyProof.Rows L2
section
variable {N : Nm} {G : Gh} {σ σ' : Sg} {H : Hp} {ρ ρ' : Env}
theorem StOk.ext (S : StOk N G σ H ρ) (n : Nat) : StOk N G (σ ++ List.replicate n none) H (ρ ++ List.replicate n .un) := by
  have gl : ∀ (i : Nat) (s : Slot), (ρ ++ List.replicate n Slot.un)[i]? = some s → ρ[i]? = some s ∨ (s = .un ∧ ρ.length ≤ i ∧ i < ρ.length + n) := fun i s e => by
    by_cases h : i < ρ.length
    · rw [List.getElem?_append_left h] at e; exact .inl e
    · rw [List.getElem?_append_right (Nat.le_of_not_lt h), List.getElem?_replicate] at e
      split at e
      · cases e; exact .inr ⟨rfl, Nat.le_of_not_lt h, by omega⟩
      · cases e
  have im : ∀ i, isMut (ρ ++ List.replicate n Slot.un) i → isMut ρ i := fun i ⟨d, h⟩ => by
    rcases h with h | h
    · rcases gl i _ h with q | ⟨q, _⟩
      · exact ⟨d, .inl q⟩
      · cases q
    · rcases gl i _ h with q | ⟨q, _⟩
      · exact ⟨d, .inr q⟩
      · cases q
  have lt : ∀ i, isMut ρ i → i < σ.length := fun i ⟨d, h⟩ => by
    rw [S.len]
    rcases h with h | h <;> exact (List.getElem?_eq_some_iff.mp h).1
  have mu : ∀ a, muts (σ ++ List.replicate n none) (ρ ++ List.replicate n Slot.un) a → muts σ ρ a := fun a ⟨i, e, m⟩ => by
    have m' := im i m
    rw [List.getElem?_append_left (lt i m')] at e
    exact ⟨i, e, m'⟩
  have mf : Mon (Frz G.Mc σ ρ) H (Frz G.Mc (σ ++ List.replicate n none) (ρ ++ List.replicate n Slot.un)) H := fun a o f e => ⟨⟨f.1, fun z => f.2 (mu a z)⟩, e⟩
  refine ⟨by simp [S.len], fun i s e => ?_, fun i j a h1 h2 m1 m2 => ?_, S.mc, fun a z => S.nmc a (mu a z), S.fr, S.dom, fun a z => S.mu a (mu a z), fun a l => ⟨(S.lk a l).1, fun z => (S.lk a l).2 (mu a z)⟩, fun k d e => ?_⟩
  · rcases gl i s e with q | ⟨rfl, q1, q2⟩
    · obtain ⟨v, ev, kk⟩ := S.slot i s q
      have hl : i < σ.length := (List.getElem?_eq_some_iff.mp ev).1
      exact ⟨v, by rw [List.getElem?_append_left hl]; exact ev, kk.mono mf (fun _ z => z) fun _ _ _ _ q => q⟩
    · refine ⟨none, ?_, trivial⟩
      rw [List.getElem?_append_right (by rw [S.len]; exact q1), List.getElem?_replicate, if_pos (by rw [S.len]; omega)]
  · have m1 := im i m1
    have m2 := im j m2
    rw [List.getElem?_append_left (lt i m1)] at h1
    rw [List.getElem?_append_left (lt j m2)] at h2
    exact S.dist i j a h1 h2 m1 m2
  · rcases gl k _ e with q | ⟨q, _⟩
    · obtain ⟨a, h1, h2⟩ := S.io k d q
      exact ⟨a, h1, by rw [List.getElem?_append_left (List.getElem?_eq_some_iff.mp h2).1]; exact h2⟩
    · cases q
theorem outsOf_ok : ∀ {as : List Slot} {ρ : Env} {os : List Slot}, outsOf as ρ = some os → OutsOk as os ∧ os.length = as.length ∧ ∀ (k : Nat) (s : Slot), os[k]? = some s → s = Slot.un ∨ ∃ d, s = Slot.io d ∧ ρ[k]? = some (Slot.io d)
  | [], _, _, e => by
    cases e
    exact ⟨⟨fun k d h => by simp at h, fun k d h => by simp at h⟩, rfl, fun k s h => by simp at h⟩
  | a :: as, [], _, e => by
    cases a <;> cases e
  | a :: as, s :: ρ, os, e => by
    have gen : ∀ {x : Slot} {os' : List Slot}, outsOf as ρ = some os' → os = x :: os' → (∀ d, a = .io d → ∃ d', x = .io d') → (∀ d, a = .lk d → x = .un) → (x = .un ∨ ∃ d, x = .io d ∧ s = .io d) →
        OutsOk (a :: as) os ∧ os.length = (a :: as).length ∧ ∀ (k : Nat) (t : Slot), os[k]? = some t → t = Slot.un ∨ ∃ d, t = Slot.io d ∧ (s :: ρ)[k]? = some (Slot.io d) := fun {x os'} e1 e2 h1 h2 h3 => by
      subst e2
      obtain ⟨⟨q1, q2⟩, q3, q4⟩ := outsOf_ok e1
      refine ⟨⟨fun k d h => ?_, fun k d h => ?_⟩, by simp [q3], fun k t h => ?_⟩
      · cases k with
        | zero => simp at h; obtain ⟨d', e⟩ := h1 d h; exact ⟨d', by simp [e]⟩
        | succ k => obtain ⟨d', e⟩ := q1 k d (by simpa using h); exact ⟨d', by simpa using e⟩
      · cases k with
        | zero => simp at h; simp [h2 d h]
        | succ k => simpa using q2 k d (by simpa using h)
      · cases k with
        | zero =>
          simp at h
          subst h
          rcases h3 with h3 | ⟨d, h3, h4⟩
          · exact .inl h3
          · exact .inr ⟨d, h3, by simp [h4]⟩
        | succ k => simpa using q4 k t (by simpa using h)
    have oth : (∀ d, a ≠ .io d) → (outsOf as ρ).map (fun r => Slot.un :: r) = some os → OutsOk (a :: as) os ∧ os.length = (a :: as).length ∧ ∀ (k : Nat) (t : Slot), os[k]? = some t → t = Slot.un ∨ ∃ d, t = Slot.io d ∧ (s :: ρ)[k]? = some (Slot.io d) := fun hn e => by
      cases e1 : outsOf as ρ with
      | none => rw [e1] at e; cases e
      | some os' =>
        rw [e1] at e; cases e
        exact gen e1 rfl (fun d z => absurd z (hn d)) (fun _ _ => rfl) (.inl rfl)
    cases a with
    | io d0 =>
      cases s with
      | io d =>
        have e : (outsOf as ρ).map (fun r => Slot.io d :: r) = some os := e
        cases e1 : outsOf as ρ with
        | none => rw [e1] at e; cases e
        | some os' =>
          rw [e1] at e; cases e
          exact gen e1 rfl (fun _ _ => ⟨d, rfl⟩) (fun _ z => nomatch z) (.inr ⟨d, rfl, rfl⟩)
      | un => cases e
      | val d => cases e
      | own d => cases e
      | lk d => cases e
    | un => exact oth (fun _ z => nomatch z) e
    | val d => exact oth (fun _ z => nomatch z) e
    | own d => exact oth (fun _ z => nomatch z) e
    | lk d => exact oth (fun _ z => nomatch z) e
/-- the lent slots, at the end -/
theorem StOk.outs {vs : List V} {as os : List Slot} (S : StOk N G σ H ρ) (hio : ∀ k a, G.IO k a → vs[k]? = some (.ref a)) (hl : as.length = vs.length) (e : outsOf as ρ = some os) :
    StOk N G (vs.map some) H os ∧ ∀ a, muts (vs.map some) os a → muts σ ρ a := by
  obtain ⟨_, ol, og⟩ := outsOf_ok e
  have back : ∀ i a, (vs.map some)[i]? = some (some (V.ref a)) → isMut os i → σ[i]? = some (some (.ref a)) ∧ isMut ρ i := fun i a ei ⟨d, m⟩ => by
    have hd : ∃ d, ρ[i]? = some (.io d) := by
      rcases m with m | m
      · rcases og i _ m with z | ⟨_, z, _⟩ <;> cases z
      · rcases og i _ m with z | ⟨d', _, z⟩
        · cases z
        · exact ⟨d', z⟩
    obtain ⟨d', q⟩ := hd
    obtain ⟨a', h1, h2⟩ := S.io i d' q
    have h3 := hio i a' h1
    rw [List.getElem?_map, h3] at ei
    cases ei
    exact ⟨h2, d', .inr q⟩
  have mu : ∀ a, muts (vs.map some) os a → muts σ ρ a := fun a ⟨i, ei, m⟩ => ⟨i, back i a ei m⟩
  have mf : Mon (Frz G.Mc σ ρ) H (Frz G.Mc (vs.map some) os) H := fun a o f e => ⟨⟨f.1, fun z => f.2 (mu a z)⟩, e⟩
  refine ⟨⟨by rw [List.length_map, ol, hl], fun i s es => ?_, fun i j a h1 h2 m1 m2 => ?_, S.mc, fun a z => S.nmc a (mu a z), S.fr, S.dom, fun a z => S.mu a (mu a z), fun a l => ⟨(S.lk a l).1, fun z => (S.lk a l).2 (mu a z)⟩, fun k d es => ?_⟩, mu⟩
  · have hi : i < vs.length := by
      have := (List.getElem?_eq_some_iff.mp es).1
      omega
    rcases og i s es with rfl | ⟨d, rfl, q⟩
    · exact ⟨some vs[i], by rw [List.getElem?_map, List.getElem?_eq_getElem hi]; rfl, trivial⟩
    · obtain ⟨v, ev, a, ea, o⟩ := S.slot i _ q
      obtain ⟨a', h1, h2⟩ := S.io i d q
      rw [h2] at ev; cases ev; cases ea
      exact ⟨some (.ref a), by rw [List.getElem?_map, hio i a h1]; rfl, a, rfl, o.mon mf fun _ z => z⟩
  · obtain ⟨h1, m1⟩ := back i a h1 m1
    obtain ⟨h2, m2⟩ := back j a h2 m2
    exact S.dist i j a h1 h2 m1 m2
  · rcases og k _ es with z | ⟨d', z, q⟩
    · cases z
    · obtain ⟨a, h1, h2⟩ := S.io k d' q
      exact ⟨a, h1, by rw [List.getElem?_map, hio k a h1]; rfl⟩
/-- from a def's answer to what its body is to reach -/
theorem fin_ok {vs : List V} {as : List Slot} {Q : VK} {E : XK} {o : SOut} (hio : ∀ k a, G.IO k a → vs[k]? = some (.ref a)) (hl : as.length = vs.length) (h : CRes N G vs Q E (finC as o)) :
    SOutOk N (fun cls d _ H => E cls d H) G { nx := fun _ H' => Q .non H', rt := Q } o := by
  cases o with
  | stuck => exact h
  | bk ρ => exact h.elim
  | ct ρ => exact h.elim
  | nx ρ =>
    simp only [finC] at h
    split at h
    · rename_i os eo
      intro σ' H' S'
      obtain ⟨S2, _⟩ := S'.outs hio hl eo
      refine h .non H' ?_ rfl Fresh.no
      show StOk N (G.add noA) _ H' os
      rw [Gh.add_no]; exact S2
    · exact h.elim
  | exc x ρ =>
    simp only [finC] at h
    split at h
    · rename_i os eo
      intro cls dd σ' H' S' X'
      obtain ⟨S2, mu⟩ := S'.outs hio hl eo
      exact h cls dd H' S2 (X'.mon fun a o f e => ⟨⟨f.1, fun z => f.2 (mu a z)⟩, e⟩)
    · exact h.elim
  | rt r ρ =>
    cases r with
    | bor i =>
      simp only [finC] at h
      split at h <;> exact h.elim
    | val d =>
      simp only [finC] at h
      split at h
      · rename_i os eo
        intro v σ' H' S' k' fr'
        obtain ⟨S2, mu⟩ := StOk.outs (G := G.add (ownA (.val d) v)) S' hio hl eo
        exact h v H' S2 (Rep.mon (fun a o f e => ⟨⟨f.1, fun z => f.2 (mu a z)⟩, e⟩) _ _ k') fr'
      · exact h.elim
    | own d =>
      simp only [finC] at h
      split at h
      · rename_i os eo
        intro v σ' H' S' k' fr'
        obtain ⟨S2, mu⟩ := StOk.outs (G := G.add (ownA (.own d) v)) S' hio hl eo
        obtain ⟨p, ev, mp, oo⟩ := k'
        exact h v H' S2 ⟨p, ev, mp, oo.mon (fun a o f e => ⟨⟨f.1, fun z => f.2 (mu a z)⟩, e⟩) fun _ z => z⟩ fr'
      · exact h.elim
end
def COk (as : List Slot) (c : COut) : Prop := match c with
  | .ret _ outs => OutsOk as outs
  | .exc _ outs => OutsOk as outs
  | .stuck => True
theorem finC_ok (as : List Slot) : ∀ o, COk as (finC as o)
  | .nx ρ => by
    unfold COk
    simp only [finC]
    cases e : outsOf as ρ with
    | none => trivial
    | some os => exact (outsOf_ok e).1
  | .rt r ρ => by
    unfold COk
    simp only [finC]
    cases e : outsOf as ρ with
    | none => trivial
    | some os => exact (outsOf_ok e).1
  | .exc r ρ => by
    unfold COk
    simp only [finC]
    cases e : outsOf as ρ with
    | none => trivial
    | some os => exact (outsOf_ok e).1
  | .bk ρ => trivial
  | .ct ρ => trivial
  | .stuck => trivial
theorem callF_form (T : Tab) (m f : Nat) (as : List Slot) : callF T m f as = .stuck ∨ ∃ o, callF T m f as = finC as o := by
  cases m with
  | zero => exact .inl rfl
  | succ m =>
    unfold callF
    cases T.fn f with
    | none => exact .inl rfl
    | some fd =>
      dsimp only
      by_cases h : modeOk fd.modes as = true
      · rw [if_pos h]; exact .inr ⟨_, rfl⟩
      · rw [if_neg h]; exact .inl rfl
theorem clOk (T : Tab) (m : Nat) : ClOk (callF T m) := fun f as => by
  rcases callF_form T m f as with h | ⟨o, h⟩
  · rw [h]; trivial
  · rw [h]; exact finC_ok as o
/-- the text of a def and its code -/
def FnT (K : PySem.W.Frag) (N : Nm) (M : Nam) (a : Addr) (fd : Fd) : Prop :=
  ∃ (oc : Value) (od : Option Addr) (osl : Array (Option Value)) (name qual : Str) (params : Arguments) (body : List Stmt) (scope : Scope) (dV kV doc pm : Value) (an : Option Addr) (cdv ct : Value) (NN ps : List Str),
    K.lookup a = some ⟨oc, od, .func (PySem.W.fnOf name qual params body scope dV kV doc pm an cdv ct), osl⟩ ∧ PySem.W.codeIn K cdv qual = true ∧ FnScope NN ps scope ∧ fd.modes.length = ps.length ∧ fd.ns = NN.length ∧ chkSs NN N.fld M scope fd.body body = true ∧
      fd.kwo ≤ fd.dfl.length ∧ ∀ j, j + fd.kwo ≤ fd.dfl.length → ∃ ds, Binds K (PySem.W.fnOf name qual params body scope dV kV doc pm an cdv ct) ps ds ∧ Vals ((fd.dfl.drop j).map toV) ds
section
variable {P : Program} {w : World} {K : PySem.W.Frag} {mg : Str → Option Value} {base : Heap} {N : Nm} {T : Tab} {M : Nam} {fad : Nat → Addr}
theorem fn_ok (ws : Ws K mg N T M fad) {m : Nat} (ih : ∀ f fd, T.fn f = some fd → FnR P w K mg base (L2.CX P w) (2 * m + 4) (fad f) (spC N fd (callF T m f))) {f : Nat} {fd : Fd} (hT : T.fn f = some fd)
    {oc : Value} {od : Option Addr} {osl : Array (Option Value)} {name qual : Str} {params : Arguments} {body : List Stmt} {scope : Scope} {dV kV doc pm : Value} {an : Option Addr} {cdv ct : Value} {NN ps : List Str}
    (lk : K.lookup (fad f) = some ⟨oc, od, .func (PySem.W.fnOf name qual params body scope dV kV doc pm an cdv ct), osl⟩) (hcd : PySem.W.codeIn K cdv qual = true) (S : FnScope NN ps scope) (hm : fd.modes.length = ps.length) (hns : fd.ns = NN.length) (hchk : chkSs NN N.fld M scope fd.body body = true) :
    FnOk P w K mg base (L2.CX P w) (2 * m + 4 + 1 + 1) (fad f) (PySem.W.fnOf name qual params body scope dV kV doc pm an cdv ct) ps (spD N fd.modes.length (callF T (m + 1) f)) := by
  refine fn_of lk hcd S (fun vs H Q E h => by obtain ⟨_, _, _, _, hl, _⟩ := h; rw [hl, hm]) fun A outer s H vs Q E hr hsp => ?_
  obtain ⟨G, as, S0, hio, hl, hres⟩ := hsp
  let X := cxOf (L2.CX P w) P w K mg base NN qual scope (fad f) cdv A outer s H E
  have wd : Wd X N T M (callF T m) fad (2 * m + 4) := ⟨ws, clOk T m, ih, hr, by omega, rfl⟩
  have tk : Takes X (fun cls d _ H => E cls d H) := takes_of (X := X) (E := E) rfl rfl rfl rfl
  have bd : Bd X (fun cls d _ H => E cls d H) NN scope := ⟨rfl, S.nd, rfl, tk⟩
  have po : PassesOwn (model X.prog X.w) X.A X.env X.xe := passes_of (X := X) rfl
  have fb : Fb X := ⟨fun _ => rfl, by show (if scope.kind.isAnnotationScope then ScopeKind.function else scope.kind) = _; rw [S.kind]; rfl, po⟩
  refine ⟨tS N (fun cls d _ H => E cls d H) (evalSs T (callF T m) fd.body), sndSs fd.body wd bd fb body hchk, G, as ++ List.replicate (NN.length - vs.length) .un, by exact S0.ext _, ?_⟩
  have hal : as.length = vs.length := by rw [← S0.len, List.length_map]
  unfold callF at hres
  rw [hT] at hres
  dsimp only at hres
  split at hres
  · rw [hns, hal] at hres
    exact fin_ok (fun k a z => by rw [hio] at z; exact z) hal hres
  · exact hres.elim
theorem all_fn (ws : Ws K mg N T M fad) (ht : ∀ f fd, T.fn f = some fd → FnT K N M (fad f) fd) : ∀ m f fd, T.fn f = some fd → FnR P w K mg base (L2.CX P w) (2 * m + 4) (fad f) (spC N fd (callF T m f))
  | 0, f, fd, hT => fun A outer s H us vs Q E hr e0 r h => by
    obtain ⟨_, G, as, S, _, _, h⟩ := h
    unfold callF at h
    exact h.elim
  | m + 1, f, fd, hT => by
    obtain ⟨oc, od, osl, name, qual, params, body, scope, dV, kV, doc, pm, an, cdv, ct, NN, ps, lk, hcd, S, hm, hns, hchk, hkw, hdf⟩ := ht f fd hT
    have F := fn_ok (P := P) (w := w) (base := base) ws (all_fn ws ht m) hT lk hcd S hm hns hchk
    refine fun A outer s H us vs Q E hr e0 r h => ?_
    obtain ⟨hko, h⟩ := h
    have h : spD N fd.modes.length (callF T (m + 1) f) (vs ++ (fillD fd.dfl fd.modes.length vs.length).map toV) H Q E := h
    obtain ⟨ds, hb, hd⟩ := hdf (min (vs.length + fd.dfl.length - fd.modes.length) fd.dfl.length) (by omega)
    have e : (fd.dfl.drop (min (vs.length + fd.dfl.length - fd.modes.length) fd.dfl.length)) = fillD fd.dfl fd.modes.length vs.length := by
      unfold fillD
      by_cases hlt : vs.length + fd.dfl.length - fd.modes.length ≤ fd.dfl.length
      · rw [Nat.min_eq_left hlt]
      · have : fd.dfl.length ≤ vs.length + fd.dfl.length - fd.modes.length := by omega
        rw [Nat.min_eq_right this, List.drop_length, List.drop_eq_nil_of_le this]
    rw [e] at hd
    exact (F.raw hb hd) A outer s H us vs Q E hr e0 r h
/-- what the law is asked -/
def spLaw (K : PySem.W.Frag) (n : Nat) : Sp := fun vs H Q _ => ∃ (a : Addr) (ns : List Int), vs = [.ref a] ∧ ns.length ≤ n ∧ Only H ∧ SqL K H a (ns.map V.int) ∧ ∀ H', Q (.bl true) H'
/-- THE END: the law's def, by one plain equation -/
theorem law_fn (ws : Ws K mg N T M fad) (ht : ∀ f fd, T.fn f = some fd → FnT K N M (fad f) fd) (hkl : ∀ a ns, KL K a ns → N.kl a ns) {m n : Nat} {f : Nat} {fd : Fd} (hT : T.fn f = some fd)
    {oc : Value} {od : Option Addr} {osl : Array (Option Value)} {name qual : Str} {params : Arguments} {body : List Stmt} {scope : Scope} {dV kV doc pm : Value} {an : Option Addr} {cdv ct : Value} {NN : List Str} {x : Str}
    (lk : K.lookup (fad f) = some ⟨oc, od, .func (PySem.W.fnOf name qual params body scope dV kV doc pm an cdv ct), osl⟩) (hcd : PySem.W.codeIn K cdv qual = true) (S : FnScope NN [x] scope) (hm : fd.modes = [.v]) (hns : fd.ns = NN.length) (hchk : chkSs NN N.fld M scope fd.body body = true)
    (plain : ∀ ns : List Int, ns.length ≤ n → ∃ outs, callF T (m + 1) f [.val (.scr ns)] = .ret (.val (.bl true)) outs) :
    FnOk P w K mg base (L2.CX P w) (2 * m + 4 + 1 + 1) (fad f) (PySem.W.fnOf name qual params body scope dV kV doc pm an cdv ct) [x] (spLaw K n) := by
  have F := fn_ok (P := P) (w := w) (base := base) ws (all_fn ws ht m) hT lk hcd S (by rw [hm]; rfl) hns hchk
  refine F.imp fun vs H Q E ⟨a, ns, ev, hn, hO, hS, hq⟩ => ?_
  subst ev
  obtain ⟨outs, e⟩ := plain ns hn
  refine ⟨⟨fun _ => False, fun _ => False, H, fun _ => False, fun k b => ([V.ref a] : List V)[k]? = some (.ref b)⟩, [.val (.scr ns)], ?_, rfl, by rw [hm]; rfl, ?_⟩
  · have nomu : ∀ b, ¬ muts ([V.ref a].map some) [.val (.scr ns)] b := fun b ⟨i, ei, d, mi⟩ => by
      cases i with
      | zero => rcases mi with mi | mi <;> cases mi
      | succ i => simp at ei
    refine ⟨rfl, fun i s es => ?_, fun i j b h1 h2 m1 m2 => ?_, fun b z => z.elim, fun b z => (nomu b z).elim, fun b o h _ => h, fun b h => h, fun b z => (nomu b z).elim, fun b z => z.elim, fun k d es => ?_⟩
    · cases i with
      | succ i => simp at es
      | zero =>
        cases es
        refine ⟨_, rfl, .ref a, rfl, a, rfl, ?_⟩
        rcases hS with (h | ⟨o, h⟩) | h
        · rcases hO a with z | ⟨o, xs, z⟩
          · rw [z] at h; cases h
          · rw [z] at h; cases h
        · exact .inl ⟨o, ⟨fun z => z.elim, nomu a⟩, h⟩
        · exact .inr (hkl a ns h)
    · exact ((nomu b) ⟨i, h1, m1⟩).elim
    · cases k with
      | zero => cases es
      | succ k => simp at es
  · rw [e]
    intro v H' _ r _
    cases (show v = V.bl true from r)
    exact hq H'
end
end Wf

/-! Wf: names by number -/
namespace Wf
open PySem PySem.Spec PyProof.Rows L2
/-- the i-th name; beyond the list a text longer than all of it -/
def mkFld (xs : List Str) (i : Nat) : Str := match xs[i]? with
  | some x => x
  | none => ⟨Array.replicate (i + 1000) 120⟩
theorem mkFld_inj {xs : List Str} (hn : xs.Nodup) (hl : xs.all (fun x => decide (x.cps.size < 1000)) = true) : ∀ i j, mkFld xs i = mkFld xs j → i = j := by
  have short : ∀ {i : Nat} {x : Str}, xs[i]? = some x → x.cps.size < 1000 := fun {i x} e => of_decide_eq_true (List.all_eq_true.mp hl x (List.mem_of_getElem? e))
  intro i j e
  unfold mkFld at e
  cases ei : xs[i]? with
  | some x =>
    cases ej : xs[j]? with
    | some y =>
      rw [ei, ej] at e
      have e : x = y := e
      subst e
      obtain ⟨h1, h2⟩ := List.getElem?_eq_some_iff.mp ei
      obtain ⟨h3, h4⟩ := List.getElem?_eq_some_iff.mp ej
      have hp := List.pairwise_iff_getElem.mp hn
      rcases Nat.lt_trichotomy i j with h | h | h
      · exact absurd (h2.trans h4.symm) (hp i j h1 h3 h)
      · exact h
      · exact absurd (h4.trans h2.symm) (hp j i h3 h1 h)
    | none =>
      rw [ei, ej] at e
      have e : x = ⟨Array.replicate (j + 1000) 120⟩ := e
      have := short ei
      rw [e] at this
      simp at this
      omega
  | none =>
    cases ej : xs[j]? with
    | some y =>
      rw [ei, ej] at e
      have e : (⟨Array.replicate (i + 1000) 120⟩ : Str) = y := e
      have := short ej
      rw [← e] at this
      simp at this
      omega
    | none =>
      rw [ei, ej] at e
      have e : (⟨Array.replicate (i + 1000) 120⟩ : Str) = ⟨Array.replicate (j + 1000) 120⟩ := e
      have h := congrArg (fun s : Str => s.cps.size) e
      simp at h
      omega
/-! ### isinstance of built-in things -/
def tyS : Ty → Option String
  | .non => some "NoneType" | .bl => some "bool" | .int => some "int" | .str => some "str" | .lst => some "list" | .tup => some "tuple" | .dic => some "dict"
  | .cls _ => none | .verr => none
def isiB : Ty → Ty → Option Bool
  | .bl, .int => some true
  | .non, .bl => some false | .non, .int => some false | .non, .str => some false | .non, .lst => some false | .non, .tup => some false | .non, .dic => some false
  | .bl, .bl => some true | .bl, .str => some false | .bl, .lst => some false | .bl, .tup => some false | .bl, .dic => some false
  | .int, .bl => some false | .int, .int => some true | .int, .str => some false | .int, .lst => some false | .int, .tup => some false | .int, .dic => some false
  | .str, .bl => some false | .str, .int => some false | .str, .str => some true | .str, .lst => some false | .str, .tup => some false | .str, .dic => some false
  | .lst, .bl => some false | .lst, .int => some false | .lst, .str => some false | .lst, .lst => some true | .lst, .tup => some false | .lst, .dic => some false
  | .tup, .bl => some false | .tup, .int => some false | .tup, .str => some false | .tup, .lst => some false | .tup, .tup => some true | .tup, .dic => some false
  | .dic, .bl => some false | .dic, .int => some false | .dic, .str => some false | .dic, .lst => some false | .dic, .tup => some false | .dic, .dic => some true
  | _, _ => none
theorem isiB_ok {K : PySem.W.Frag} {N : Nm} {k t : Ty} {b : Bool} (h : isiB k t = some b) : PySem.W.kitOne K (tyVal N k) (tyVal N t) = some b := by
  unfold isiB at h
  split at h <;> first | (cases h; exact kit_ty (by decide +kernel)) | cases h
def nthA : List Addr → Nat → Option Addr
  | [], _ => none
  | a :: _, 0 => some a
  | _ :: r, n + 1 => nthA r n
def nthD : List Addr → Nat → Addr
  | [], _ => 0
  | a :: _, 0 => a
  | _ :: r, n + 1 => nthD r n
/-- the names: classes by address -/
def nmF (K : PySem.W.Frag) (cs : List Addr) (flds : List Str) : Nm := ⟨nthA cs, mkFld flds, KL K⟩
/-- the law's walk -/
theorem walk_w {l : PySem.W.OpenLaw} {n k : Nat} {q : Program} {loose : List Str} {XP : (Str → Option Value) → Heap → Prop} {YP : World → Heap → Prop} {d : DefRec} {K : Params → PySem.W.Frag} {x : Str}
    (hn : l.most = some n) (hn2 : n ≤ sizeLine) (hdf : d.params.defaults = []) (hr : Room k callerA) (hY : ∀ (w : World) (h : Heap), YP w h → (K w.params).In h)
    (F : ∀ (w : World) (mg : Str → Option Value) (fa : Addr) (h : Heap), (K w.params).In h → h.Ns mainGlobals mg → mg d.name = some (.ref fa) →
      ∃ fd : FuncData, (∀ (s : Shared) (u : Value), BindsTo s fd ⟨[u], []⟩ [(x, u)]) ∧ ∀ base : Heap, (K w.params).In base → base.Ns mainGlobals mg → FnOk l.prog w (K w.params) mg base (L2.CX l.prog w) k fa fd [x] (spLaw (K w.params) n)) :
    PySem.W.WalkO q loose XP YP l.row.toRowW d [] (fun f vs => PySem.call f vs) :=
  L2.walk_of (CX := fun w => L2.CX l.prog w) (sp := fun w => spLaw (K w.params) n) hn hn2 hdf hr hY F (fun w H a ns hl hO hS => ⟨a, ns, rfl, hl, hO, hS, fun _ => rfl⟩) fun w H s e s' ⟨_, _, _, _, _, _, _, _, _, _, _, _, z⟩ => z
theorem kit_rt {K : PySem.W.Frag} {C : Addr} {S : String} {b : Bool} (h : PySem.W.mroIn K C (.type S) = some b) (m : PySem.W.kitMeta S = true) : PySem.W.kitOne K (.ref C) (.type S) = some b := by
  show (if (Value.ref C == Value.type S) = true then some true else if PySem.W.kitMeta S = true then PySem.W.subIn K (.ref C) (.type S) else none) = some b
  rw [if_neg (show ¬ (Value.ref C == Value.type S) = true from Bool.false_ne_true), if_pos m]
  exact h
theorem kit_self {K : PySem.W.Frag} {C : Addr} : PySem.W.kitOne K (.ref C) (.ref C) = some true := by
  unfold PySem.W.kitOne
  rw [if_pos (by simp)]
theorem kit_rr {K : PySem.W.Frag} {C E : Addr} {b : Bool} (hne : C ≠ E) (hc : PySem.W.isClsIn K E = true) (ht : PySem.W.typeIn K (.ref E) = some (.type "type")) (h : PySem.W.mroIn K C (.ref E) = some b) : PySem.W.kitOne K (.ref C) (.ref E) = some b := by
  have hc' : (PySem.W.clsIn K E).isSome = true := hc
  have e2 : ((PySem.W.clsIn K E).isSome && PySem.W.typeIn K (.ref E) == some (.type "type")) = true := by rw [hc', ht] <;> rfl
  show (if (Value.ref C == Value.ref E) = true then some true else if ((PySem.W.clsIn K E).isSome && PySem.W.typeIn K (.ref E) == some (.type "type")) = true then PySem.W.subIn K (.ref C) (.ref E) else none) = some b
  rw [if_neg (by simpa using hne), if_pos e2]
  exact h
theorem kit_br {K : PySem.W.Frag} {N : Nm} {E : Addr} {t : Ty} (hb : (tyS t).isSome = true) (hc : PySem.W.isClsIn K E = true) (ht : PySem.W.typeIn K (.ref E) = some (.type "type")) : PySem.W.kitOne K (tyVal N t) (.ref E) = some false := by
  have hc' : (PySem.W.clsIn K E).isSome = true := hc
  have e2 : ((PySem.W.clsIn K E).isSome && PySem.W.typeIn K (.ref E) == some (.type "type")) = true := by rw [hc', ht] <;> rfl
  have gen : ∀ S : String, PySem.W.subIn K (.type S) (.ref E) = some false → PySem.W.kitOne K (.type S) (.ref E) = some false := fun S h => by
    show (if (Value.type S == Value.ref E) = true then some true else if ((PySem.W.clsIn K E).isSome && PySem.W.typeIn K (.ref E) == some (.type "type")) = true then PySem.W.subIn K (.type S) (.ref E) else none) = some false
    rw [if_neg (show ¬ (Value.type S == Value.ref E) = true from Bool.false_ne_true), if_pos e2]
    exact h
  cases t <;> first | (cases hb; done) | (refine gen _ ?_; first | rfl | kernel_rfl)
end Wf

/-! Wf: the law's end over such a head -/
namespace Wf
open PySem PySem.Spec PyProof.Rows L2
/-- the law's walk over such a head -/
theorem walk_h {l : PySem.W.OpenLaw} {n k : Nat} {q : Program} {loose : List Str} {XP : (Str → Option Value) → Heap → Prop} {fn : List He.DefD} {ex : PySem.W.Frag → Bool} {d : DefRec} {x : Str} {m : Nat}
    (hn : l.most = some n) (hn2 : n ≤ sizeLine) (hdf : d.params.defaults = []) (hr : Room k callerA) (hd : d.name = ("law" : Str))
    (F : ∀ (w : World) (K : PySem.W.Frag) (mg : Str → Option Value) (fa : Addr) (h : Heap), K.In h → h.Ns mainGlobals mg → mg "law" = some (.ref fa) → SaysW fn ex K →
      ∃ fd : FuncData, (∀ (s : Shared) (u : Value), BindsTo s fd ⟨[u], []⟩ [(x, u)]) ∧ ∀ base : Heap, K.In base → base.Ns mainGlobals mg → FnOk l.prog w K mg base (L2.CX l.prog w) k fa fd [x] (spLaw K n)) :
    PySem.W.WalkO q loose XP (hookW m fn ex).says l.row.toRowW d [] (fun f vs => PySem.call f vs) := by
  refine Att.attach_call hn hdf fun w s₀ s₁ mg mb fa o pm cd doc a vs ns G Y ho hd' hcd hmg hobj hints hlen hg => ?_
  obtain ⟨K, KX, c⟩ := Y
  rw [hd] at hmg
  obtain ⟨fd, hb, hF⟩ := F w K mg fa _ KX G.T.g hmg c
  exact law_call KX G.T.g G.T.b G.T.builtins G.T.nolimit hg hobj hints (Nat.le_trans hlen hn2) hr hF hb (fun H hO hS => ⟨a, ns, rfl, hlen, hO, hS, fun _ => rfl⟩) fun H e s' z => by
    obtain ⟨_, _, _, _, _, _, _, _, _, _, _, _, z⟩ := z
    exact z
end Wf

/-! Wf: the meaning, step by step, without binders over what is still to be run -/
namespace Wf
open PySem PySem.Spec PyProof.Rows L2
def b1 {α : Type} (f : Rv → Env → Out α) (o : Out Rv) : Out α := o.bind f
def b2 {α : Type} (f : Rv → Rv → Env → Out α) (o : Out Rv) (k : Env → Out Rv) : Out α := o.bind fun r ρ => (k ρ).bind fun s ρ => f r s ρ
def bs {α : Type} (f : List Rv → Env → Out α) (o : Out (List Rv)) : Out α := o.bind f
def bE (o : Out Rv) (k : Env → Out (List Rv)) : Out (List Rv) := o.bind fun r ρ => (k ρ).bind fun rs ρ => .ok (r :: rs) ρ
def bL (r : Rv) (o : Out (List Rv)) : Out (List Rv) := o.bind fun rs ρ => .ok (r :: rs) ρ
def bT {α : Type} (f : Bool → Env → Out α) (o : Out Bool) : Out α := o.bind f
def bI {α : Type} (f : List D → Env → Out α) (o : Out (List D)) : Out α := o.bind f
def fcm2 (op op2' : CmpOp) (k : Env → Out Rv) (r s : Rv) (ρ : Env) : Out Rv := match rdc ρ r, rdc ρ s with
    | some x, some y => (match cmpD op x y with
      | some true => (k ρ).bind fun t ρ => op2 (cmp2D op2') s t ρ
      | some false => .ok (.val (.bl false)) ρ
      | none => .stuck)
    | _, _ => .stuck
def fand (k : Env → Out Rv) (r : Rv) (ρ : Env) : Out Rv := match rdc ρ r with
    | some (.bl true) => k ρ
    | some (.bl false) => .ok (.val (.bl false)) ρ
    | _ => .stuck
def forr (k : Env → Out Rv) (r : Rv) (ρ : Env) : Out Rv := match rdc ρ r with
    | some (.bl true) => .ok (.val (.bl true)) ρ
    | some (.bl false) => k ρ
    | _ => .stuck
def fite {α : Type} (k l : Env → Out α) (c : Bool) (ρ : Env) : Out α := if c then k ρ else l ρ
def ftup (rs : List Rv) (ρ : Env) : Out Rv := match toVals rs ρ with
    | some (ds, ρ) => if decide (ds.length ≤ sizeLine) then .ok (.val (.tup ds)) ρ else .stuck
    | none => .stuck
def flst (rs : List Rv) (ρ : Env) : Out Rv := match toVals rs ρ with
    | some (ds, ρ) => if decide (ds.length ≤ sizeLine) then .ok (.own (.lst ds)) ρ else .stuck
    | none => .stuck
def fslc (b : Bool) (k : Env → Out Rv) (c : Bool) (l : Env → Out Rv) (r : Rv) (ρ : Env) : Out Rv := (partR b (k ρ) ρ).bind fun u ρ => (partR c (l ρ) ρ).bind fun h ρ => op1 (slcD u h) r ρ
def fbm (m : Bm) (k : Env → Out (List Rv)) (r : Rv) (ρ : Env) : Out Rv := (k ρ).bind fun rs ρ => match rdcs ρ rs with
    | some ds => op1 (fun x => bmD m x ds) r ρ
    | none => .stuck
def fmth (T : Tab) (cl : Cl) (m : Nat) (k : Env → Out (List Rv)) (r : Rv) (ρ : Env) : Out Rv := mth1 T m r ρ fun f => (k ρ).bind fun rs ρ => callD T cl f (r :: rs) ρ
def fcmp (op : CmpOp) (r s : Rv) (ρ : Env) : Out Bool := match rdc ρ r, rdc ρ s with
    | some x, some y => (match cmpD op x y with | some c => .ok c ρ | none => .stuck)
    | _, _ => .stuck
def fcmp2 (op op2' : CmpOp) (k : Env → Out Rv) (r s : Rv) (ρ : Env) : Out Bool := match rdc ρ r, rdc ρ s with
    | some x, some y => (match cmpD op x y with
      | some true => (k ρ).bind fun t ρ => fcmp op2' s t ρ
      | some false => .ok false ρ
      | none => .stuck)
    | _, _ => .stuck
def fnot (c : Bool) (ρ : Env) : Out Bool := .ok (!c) ρ
def fof (r : Rv) (ρ : Env) : Out (List D) := match toSrc ρ r with
    | some (d, ρ) => (match itemsD d with | some xs => .ok xs ρ | none => .stuck)
    | none => .stuck
def frng (r : Rv) (ρ : Env) : Out (List D) := match rdc ρ r with
    | some (.int j) => if rngOk j then .ok (iotaD 0 j.toNat) ρ else .stuck
    | _ => .stuck
def frng2 (r s : Rv) (ρ : Env) : Out (List D) := match rdc ρ r, rdc ρ s with
    | some (.int i), some (.int j) => if rngOk i && rngOk j then .ok (iotaD i (j - i).toNat) ρ else .stuck
    | _, _ => .stuck
def fenum (r : Rv) (ρ : Env) : Out (List D) := match toSrc ρ r with
    | some (d, ρ) => (match d with | .lst xs => .ok (enumD 0 xs) ρ | _ => .stuck)
    | none => .stuck
def fzip (r s : Rv) (ρ : Env) : Out (List D) := match toSrc ρ r with
    | some (d, ρ) => (match toSrc ρ s with
      | some (e, ρ) => (match zip2D d e with | some xs => .ok xs ρ | none => .stuck)
      | none => .stuck)
    | none => .stuck
def frev (r : Rv) (ρ : Env) : Out (List D) := match toSrc ρ r with
    | some (d, ρ) => (match itemsD d with | some xs => .ok xs.reverse ρ | none => .stuck)
    | none => .stuck
def fcon (o : Option D) (ρ : Env) : Out Rv := match o with | some d => .ok (.val d) ρ | none => .stuck
def fapp (i : Nat) (b : Bool) (o : Out Rv) : Out Rv := if b then b1 (app1 i) o else .stuck
def fpopAt (i : Nat) (b : Bool) (o : Out Rv) : Out Rv := if b then b1 (popAt1 i) o else .stuck
/-! statements -/
def sE (f : Rv → Env → SOut) (o : Out Rv) : SOut := o.st f
def sT (f : Bool → Env → SOut) (o : Out Bool) : SOut := o.st f
def sI (f : List D → Env → SOut) (o : Out (List D)) : SOut := o.st f
def seqS (o : SOut) (k : Env → SOut) : SOut := match o with
    | .nx ρ => k ρ
    | o => o
def gexpr (r : Rv) (ρ : Env) : SOut := .nx ρ
def gset (i : Nat) (r : Rv) (ρ : Env) : SOut := match toVal ρ r with
    | some (d, ρ) => (match asg i (.val d) ρ with | some ρ => .nx ρ | none => .stuck)
    | none => .stuck
def ghold (i : Nat) (r : Rv) (ρ : Env) : SOut := match r with
    | .own d => (match asg i (.own d) ρ with | some ρ => .nx ρ | none => .stuck)
    | .val d => (match asg i (.val d) ρ with | some ρ => .nx ρ | none => .stuck)
    | .bor _ => .stuck
def gput (i : Nat) (r s : Rv) (ρ : Env) : SOut := match toVal ρ r with
      | some (d, ρ) => (match rdc ρ s, ownAt ρ i with
        | some (.int j), some (.lst xs, c) => (match ixN xs.length j with
          | some n => .nx (ρ.set i (c (.lst (xs.set n d))))
          | none => .stuck)
        | _, _ => .stuck)
      | none => .stuck
def gsub (i : Nat) (k : Env → Out Rv) (r : Rv) (ρ : Env) : SOut := if isLst ρ i then sE (gput i r) (k ρ) else .stuck
def gatt (T : Tab) (i f : Nat) (r : Rv) (ρ : Env) : SOut := match toVal ρ r with
    | some (d, ρ) => (match ownAt ρ i with
      | some (.ins C fs, c) => if decide (fs.length < 1000) && (T.flds C).contains f then .nx (ρ.set i (c (.ins C (putD f d fs)))) else .stuck
      | _ => .stuck)
    | none => .stuck
def gunp (tg : Tg) (r : Rv) (ρ : Env) : SOut := match toVal ρ r with
    | some (d, ρ) => (match bindT tg d ρ with | some ρ => .nx ρ | none => .stuck)
    | none => .stuck
def gite (k l : Env → SOut) (c : Bool) (ρ : Env) : SOut := if c then k ρ else l ρ
def gret (r : Rv) (ρ : Env) : SOut := retR ρ r
section
variable {T : Tab} {cl : Cl} {ρ : Env}
def forB (T : Tab) (cl : Cl) (tg : Tg) (b : Stms) (xs : List D) (ρ : Env) : SOut := forLoop (bindT tg) (evalSs T cl b) xs ρ
def cmpB (T : Tab) (cl : Cl) (e : Ex) (tg : Tg) (cond : Ex) (xs : List D) (ρ0 : Env) : Out Rv := if (slotsT tg).all (freeSlot ρ0) then
      (compLoop (bindT tg) (evalT T cl cond) (evalE T cl e) (slotsT tg) xs [] (clear (slotsT tg) ρ0)).bind fun ds ρ => .ok (.own (.lst ds)) (restore ρ0 (slotsT tg) ρ) else .stuck
theorem e_var {i} : evalE T cl (.var i) ρ = varE i ρ := by
  first | (rw [evalE]; done) | (rw [evalE]; rfl) | (conv => lhs; unfold evalE; rfl) | rfl
theorem e_non  : evalE T cl (.non) ρ = .ok (.val .non) ρ := by
  first | (rw [evalE]; done) | (rw [evalE]; rfl) | (conv => lhs; unfold evalE; rfl) | rfl
theorem e_bl {b} : evalE T cl (.bl b) ρ = .ok (.val (.bl b)) ρ := by
  first | (rw [evalE]; done) | (rw [evalE]; rfl) | (conv => lhs; unfold evalE; rfl) | rfl
theorem e_int {i} : evalE T cl (.int i) ρ = .ok (.val (.int i)) ρ := by
  first | (rw [evalE]; done) | (rw [evalE]; rfl) | (conv => lhs; unfold evalE; rfl) | rfl
theorem e_str {x} : evalE T cl (.str x) ρ = .ok (.val (.str x)) ρ := by
  first | (rw [evalE]; done) | (rw [evalE]; rfl) | (conv => lhs; unfold evalE; rfl) | rfl
theorem e_glo {g} : evalE T cl (.glo g) ρ = fcon (T.con g) ρ := by
  first | (rw [evalE]; done) | (rw [evalE]; rfl) | (conv => lhs; unfold evalE; rfl) | rfl
theorem e_bin {op a b} : evalE T cl (.bin op a b) ρ = b2 (op2 (binD op)) (evalE T cl a ρ) (evalE T cl b) := by
  first | (rw [evalE]; done) | (rw [evalE]; rfl) | (conv => lhs; unfold evalE; rfl) | rfl
theorem e_neg {a} : evalE T cl (.neg a) ρ = b1 (op1 negD) (evalE T cl a ρ) := by
  first | (rw [evalE]; done) | (rw [evalE]; rfl) | (conv => lhs; unfold evalE; rfl) | rfl
theorem e_inv {a} : evalE T cl (.inv a) ρ = b1 (op1 invD) (evalE T cl a ρ) := by
  first | (rw [evalE]; done) | (rw [evalE]; rfl) | (conv => lhs; unfold evalE; rfl) | rfl
theorem e_nt {a} : evalE T cl (.nt a) ρ = b1 (op1 ntD) (evalE T cl a ρ) := by
  first | (rw [evalE]; done) | (rw [evalE]; rfl) | (conv => lhs; unfold evalE; rfl) | rfl
theorem e_cmp {op a b} : evalE T cl (.cmp op a b) ρ = b2 (op2 (cmp2D op)) (evalE T cl a ρ) (evalE T cl b) := by
  first | (rw [evalE]; done) | (rw [evalE]; rfl) | (conv => lhs; unfold evalE; rfl) | rfl
theorem e_cmp2 {op op2 a b c} : evalE T cl (.cmp2 op op2 a b c) ρ = b2 (fcm2 op op2 (evalE T cl c)) (evalE T cl a ρ) (evalE T cl b) := by
  first | (rw [evalE]; done) | (rw [evalE]; rfl) | (conv => lhs; unfold evalE; rfl) | rfl
theorem e_and {a b} : evalE T cl (.and a b) ρ = b1 (fand (evalE T cl b)) (evalE T cl a ρ) := by
  first | (rw [evalE]; done) | (rw [evalE]; rfl) | (conv => lhs; unfold evalE; rfl) | rfl
theorem e_or {a b} : evalE T cl (.or a b) ρ = b1 (forr (evalE T cl b)) (evalE T cl a ρ) := by
  first | (rw [evalE]; done) | (rw [evalE]; rfl) | (conv => lhs; unfold evalE; rfl) | rfl
theorem e_ite {c a b} : evalE T cl (.ite c a b) ρ = bT (fite (evalE T cl a) (evalE T cl b)) (evalT T cl c ρ) := by
  first | (rw [evalE]; done) | (rw [evalE]; rfl) | (conv => lhs; unfold evalE; rfl) | rfl
theorem e_tup {es} : evalE T cl (.tup es) ρ = bs ftup (evalEs T cl es ρ) := by
  first | (rw [evalE]; done) | (rw [evalE]; rfl) | (conv => lhs; unfold evalE; rfl) | rfl
theorem e_lst {es} : evalE T cl (.lst es) ρ = bs flst (evalEs T cl es ρ) := by
  first | (rw [evalE]; done) | (rw [evalE]; rfl) | (conv => lhs; unfold evalE; rfl) | rfl
theorem e_sub {a i} : evalE T cl (.sub a i) ρ = b2 (op2 sub2) (evalE T cl a ρ) (evalE T cl i) := by
  first | (rw [evalE]; done) | (rw [evalE]; rfl) | (conv => lhs; unfold evalE; rfl) | rfl
theorem e_slc {a lo hi} : evalE T cl (.slc a lo hi) ρ = b1 (fslc (isNonC lo) (evalE T cl lo) (isNonC hi) (evalE T cl hi)) (evalE T cl a ρ) := by
  first | (rw [evalE]; done) | (rw [evalE]; rfl) | (conv => lhs; unfold evalE; rfl) | rfl
theorem e_att {a f} : evalE T cl (.att a f) ρ = b1 (op1 (attD T f)) (evalE T cl a ρ) := by
  first | (rw [evalE]; done) | (rw [evalE]; rfl) | (conv => lhs; unfold evalE; rfl) | rfl
theorem e_ccon {C f} : evalE T cl (.ccon C f) ρ = fcon (T.ccon C f) ρ := by
  first | (rw [evalE]; done) | (rw [evalE]; rfl) | (conv => lhs; unfold evalE; rfl) | rfl
theorem e_call {f es} : evalE T cl (.call f es) ρ = bs (callD T cl f) (evalEs T cl es ρ) := by
  first | (rw [evalE]; done) | (rw [evalE]; rfl) | (conv => lhs; unfold evalE; rfl) | rfl
theorem e_new {C es} : evalE T cl (.new C es) ρ = bs (newD T cl C) (evalEs T cl es ρ) := by
  first | (rw [evalE]; done) | (rw [evalE]; rfl) | (conv => lhs; unfold evalE; rfl) | rfl
theorem e_isi {a t} : evalE T cl (.isi a t) ρ = b1 (op1 (isiD T t)) (evalE T cl a ρ) := by
  first | (rw [evalE]; done) | (rw [evalE]; rfl) | (conv => lhs; unfold evalE; rfl) | rfl
theorem e_bi {b es} : evalE T cl (.bi b es) ρ = bs (bi1 b) (evalEs T cl es ρ) := by
  first | (rw [evalE]; done) | (rw [evalE]; rfl) | (conv => lhs; unfold evalE; rfl) | rfl
theorem e_bm {m a es} : evalE T cl (.bm m a es) ρ = b1 (fbm m (evalEs T cl es)) (evalE T cl a ρ) := by
  first | (rw [evalE]; done) | (rw [evalE]; rfl) | (conv => lhs; unfold evalE; rfl) | rfl
theorem e_mth {a m es} : evalE T cl (.mth a m es) ρ = b1 (fmth T cl m (evalEs T cl es)) (evalE T cl a ρ) := by
  first | (rw [evalE]; done) | (rw [evalE]; rfl) | (conv => lhs; unfold evalE; rfl) | rfl
theorem e_lso {a} : evalE T cl (.lso a) ρ = b1 (op1 (lsoD T)) (evalE T cl a ρ) := by
  first | (rw [evalE]; done) | (rw [evalE]; rfl) | (conv => lhs; unfold evalE; rfl) | rfl
theorem e_app {i e} : evalE T cl (.app i e) ρ = fapp i (isLst ρ i) (evalE T cl e ρ) := by
  first | (rw [evalE]; done) | (rw [evalE]; rfl) | (conv => lhs; unfold evalE; rfl) | rfl
theorem e_pop {i} : evalE T cl (.pop i) ρ = pop1 i ρ := by
  first | (rw [evalE]; done) | (rw [evalE]; rfl) | (conv => lhs; unfold evalE; rfl) | rfl
theorem e_popAt {i e} : evalE T cl (.popAt i e) ρ = fpopAt i (isLst ρ i) (evalE T cl e ρ) := by
  first | (rw [evalE]; done) | (rw [evalE]; rfl) | (conv => lhs; unfold evalE; rfl) | rfl
theorem e_comp {e tg src cond} : evalE T cl (.comp e tg src cond) ρ = bI (cmpB T cl e tg cond) (evalSrc T cl src ρ) := by
  first | (rw [evalE]; done) | (rw [evalE]; rfl) | (conv => lhs; unfold evalE; rfl) | rfl
theorem es_nil  : evalEs T cl (.nil) ρ = .ok [] ρ := by
  first | (rw [evalEs]; done) | (rw [evalEs]; rfl) | (conv => lhs; unfold evalEs; rfl) | rfl
theorem es_cons {e es} : evalEs T cl (.cons e es) ρ = bE (evalE T cl e ρ) (evalEs T cl es) := by
  first | (rw [evalEs]; done) | (rw [evalEs]; rfl) | (conv => lhs; unfold evalEs; rfl) | rfl
theorem t_and {a b} : evalT T cl (.and a b) ρ = bT (fite (evalT T cl b) (fun ρ => .ok false ρ)) (evalT T cl a ρ) := by
  first | (rw [evalT]; done) | (rw [evalT]; rfl) | (conv => lhs; unfold evalT; rfl) | rfl
theorem t_or {a b} : evalT T cl (.or a b) ρ = bT (fite (fun ρ => .ok true ρ) (evalT T cl b)) (evalT T cl a ρ) := by
  first | (rw [evalT]; done) | (rw [evalT]; rfl) | (conv => lhs; unfold evalT; rfl) | rfl
theorem t_nt {a} : evalT T cl (.nt a) ρ = bT fnot (evalT T cl a ρ) := by
  first | (rw [evalT]; done) | (rw [evalT]; rfl) | (conv => lhs; unfold evalT; rfl) | rfl
theorem t_var {i} : evalT T cl (.var i) ρ = b1 tru1 (varE i ρ) := by
  first | (rw [evalT]; done) | (rw [evalT]; rfl) | (conv => lhs; unfold evalT; rfl) | rfl
theorem t_cmp {op a b} : evalT T cl (.cmp op a b) ρ = b2 (fcmp op) (evalE T cl a ρ) (evalE T cl b) := by
  first | (rw [evalT]; done) | (rw [evalT]; rfl) | (conv => lhs; unfold evalT; rfl) | rfl
theorem t_cmp2 {op op2 a b c} : evalT T cl (.cmp2 op op2 a b c) ρ = b2 (fcmp2 op op2 (evalE T cl c)) (evalE T cl a ρ) (evalE T cl b) := by
  first | (rw [evalT]; done) | (rw [evalT]; rfl) | (conv => lhs; unfold evalT; rfl) | rfl
theorem t_call {f es} : evalT T cl (.call f es) ρ = b1 tru1 (bs (callD T cl f) (evalEs T cl es ρ)) := by
  first | (rw [evalT]; done) | (rw [evalT]; rfl) | (conv => lhs; unfold evalT; rfl) | rfl
theorem t_isi {a t} : evalT T cl (.isi a t) ρ = b1 tru1 (b1 (op1 (isiD T t)) (evalE T cl a ρ)) := by
  first | (rw [evalT]; done) | (rw [evalT]; rfl) | (conv => lhs; unfold evalT; rfl) | rfl
theorem t_bi {b es} : evalT T cl (.bi b es) ρ = b1 tru1 (bs (bi1 b) (evalEs T cl es ρ)) := by
  first | (rw [evalT]; done) | (rw [evalT]; rfl) | (conv => lhs; unfold evalT; rfl) | rfl
theorem t_bin {op a b} : evalT T cl (.bin op a b) ρ = b1 tru1 (b2 (op2 (binD op)) (evalE T cl a ρ) (evalE T cl b)) := by
  first | (rw [evalT]; done) | (rw [evalT]; rfl) | (conv => lhs; unfold evalT; rfl) | rfl
theorem t_att {a f} : evalT T cl (.att a f) ρ = b1 tru1 (b1 (op1 (attD T f)) (evalE T cl a ρ)) := by
  first | (rw [evalT]; done) | (rw [evalT]; rfl) | (conv => lhs; unfold evalT; rfl) | rfl
theorem t_mth {a m es} : evalT T cl (.mth a m es) ρ = b1 tru1 (b1 (fmth T cl m (evalEs T cl es)) (evalE T cl a ρ)) := by
  first | (rw [evalT]; done) | (rw [evalT]; rfl) | (conv => lhs; unfold evalT; rfl) | rfl
theorem t_bl {b} : evalT T cl (.bl b) ρ = .ok b ρ := by
  first | (rw [evalT]; done) | (rw [evalT]; rfl) | (conv => lhs; unfold evalT; rfl) | rfl
theorem src_of {e} : evalSrc T cl (.of e) ρ = b1 fof (evalE T cl e ρ) := by
  first | (rw [evalSrc]; done) | (rw [evalSrc]; rfl) | (conv => lhs; unfold evalSrc; rfl) | rfl
theorem src_range1 {a} : evalSrc T cl (.range1 a) ρ = b1 frng (evalE T cl a ρ) := by
  first | (rw [evalSrc]; done) | (rw [evalSrc]; rfl) | (conv => lhs; unfold evalSrc; rfl) | rfl
theorem src_range2 {a b} : evalSrc T cl (.range2 a b) ρ = b2 frng2 (evalE T cl a ρ) (evalE T cl b) := by
  first | (rw [evalSrc]; done) | (rw [evalSrc]; rfl) | (conv => lhs; unfold evalSrc; rfl) | rfl
theorem src_enum {a} : evalSrc T cl (.enum a) ρ = b1 fenum (evalE T cl a ρ) := by
  first | (rw [evalSrc]; done) | (rw [evalSrc]; rfl) | (conv => lhs; unfold evalSrc; rfl) | rfl
theorem src_zip {a b} : evalSrc T cl (.zip a b) ρ = b2 fzip (evalE T cl a ρ) (evalE T cl b) := by
  first | (rw [evalSrc]; done) | (rw [evalSrc]; rfl) | (conv => lhs; unfold evalSrc; rfl) | rfl
theorem src_rev {a} : evalSrc T cl (.rev a) ρ = b1 frev (evalE T cl a ρ) := by
  first | (rw [evalSrc]; done) | (rw [evalSrc]; rfl) | (conv => lhs; unfold evalSrc; rfl) | rfl
theorem s_expr {e} : evalS T cl (.expr e) ρ = sE gexpr (evalE T cl e ρ) := by
  first | (rw [evalS]; done) | (rw [evalS]; rfl) | (conv => lhs; unfold evalS; rfl) | rfl
theorem s_set {i e} : evalS T cl (.set i e) ρ = sE (gset i) (evalE T cl e ρ) := by
  first | (rw [evalS]; done) | (rw [evalS]; rfl) | (conv => lhs; unfold evalS; rfl) | rfl
theorem s_hold {i e} : evalS T cl (.hold i e) ρ = sE (ghold i) (evalE T cl e ρ) := by
  first | (rw [evalS]; done) | (rw [evalS]; rfl) | (conv => lhs; unfold evalS; rfl) | rfl
theorem s_setsub {i k e} : evalS T cl (.setsub i k e) ρ = sE (gsub i (evalE T cl k)) (evalE T cl e ρ) := by
  first | (rw [evalS]; done) | (rw [evalS]; rfl) | (conv => lhs; unfold evalS; rfl) | rfl
theorem s_setatt {i f e} : evalS T cl (.setatt i f e) ρ = sE (gatt T i f) (evalE T cl e ρ) := by
  first | (rw [evalS]; done) | (rw [evalS]; rfl) | (conv => lhs; unfold evalS; rfl) | rfl
theorem s_unpack {tg e} : evalS T cl (.unpack tg e) ρ = sE (gunp tg) (evalE T cl e ρ) := by
  first | (rw [evalS]; done) | (rw [evalS]; rfl) | (conv => lhs; unfold evalS; rfl) | rfl
theorem s_ite {c a b} : evalS T cl (.ite c a b) ρ = sT (gite (evalSs T cl a) (evalSs T cl b)) (evalT T cl c ρ) := by
  first | (rw [evalS]; done) | (rw [evalS]; rfl) | (conv => lhs; unfold evalS; rfl) | rfl
theorem s_for {tg src b} : evalS T cl (.for_ tg src b) ρ = sI (forB T cl tg b) (evalSrc T cl src ρ) := by
  first | (rw [evalS]; done) | (rw [evalS]; rfl) | (conv => lhs; unfold evalS; rfl) | rfl
theorem s_ret {e} : evalS T cl (.ret e) ρ = sE gret (evalE T cl e ρ) := by
  first | (rw [evalS]; done) | (rw [evalS]; rfl) | (conv => lhs; unfold evalS; rfl) | rfl
theorem s_retN  : evalS T cl (.retN) ρ = .rt (.val .non) ρ := by
  first | (rw [evalS]; done) | (rw [evalS]; rfl) | (conv => lhs; unfold evalS; rfl) | rfl
theorem s_pass  : evalS T cl (.pass) ρ = .nx ρ := by
  first | (rw [evalS]; done) | (rw [evalS]; rfl) | (conv => lhs; unfold evalS; rfl) | rfl
theorem s_brk  : evalS T cl (.brk) ρ = .bk ρ := by
  first | (rw [evalS]; done) | (rw [evalS]; rfl) | (conv => lhs; unfold evalS; rfl) | rfl
theorem s_cnt  : evalS T cl (.cnt) ρ = .ct ρ := by
  first | (rw [evalS]; done) | (rw [evalS]; rfl) | (conv => lhs; unfold evalS; rfl) | rfl
theorem s_never  : evalS T cl (.never) ρ = .stuck := by
  first | (rw [evalS]; done) | (rw [evalS]; rfl) | (conv => lhs; unfold evalS; rfl) | rfl
theorem ss_nil  : evalSs T cl (.nil) ρ = .nx ρ := by
  first | (rw [evalSs]; done) | (rw [evalSs]; rfl) | (conv => lhs; unfold evalSs; rfl) | rfl
theorem ss_cons {s r} : evalSs T cl (.cons s r) ρ = seqS (evalS T cl s ρ) (evalSs T cl r) := by
  first | (rw [evalSs]; done) | (rw [evalSs]; rfl) | (conv => lhs; unfold evalSs; rfl) | rfl
theorem b1_ok {α : Type} {f : Rv → Env → Out α} {r : Rv} : b1 f (.ok r ρ) = f r ρ := id rfl
theorem b2_ok {α : Type} {f : Rv → Rv → Env → Out α} {k : Env → Out Rv} {r : Rv} : b2 f (.ok r ρ) k = b1 (f r) (k ρ) := id rfl
theorem bs_ok {α : Type} {f : List Rv → Env → Out α} {r : List Rv} : bs f (.ok r ρ) = f r ρ := id rfl
theorem bE_ok {k : Env → Out (List Rv)} {r : Rv} : bE (.ok r ρ) k = bL r (k ρ) := id rfl
theorem bL_ok {r : Rv} {rs : List Rv} : bL r (.ok rs ρ) = .ok (r :: rs) ρ := id rfl
theorem bT_ok {α : Type} {f : Bool → Env → Out α} {r : Bool} : bT f (.ok r ρ) = f r ρ := id rfl
theorem bI_ok {α : Type} {f : List D → Env → Out α} {r : List D} : bI f (.ok r ρ) = f r ρ := id rfl
theorem sE_ok {f : Rv → Env → SOut} {r : Rv} : sE f (.ok r ρ) = f r ρ := id rfl
theorem sT_ok {f : Bool → Env → SOut} {r : Bool} : sT f (.ok r ρ) = f r ρ := id rfl
theorem sI_ok {f : List D → Env → SOut} {r : List D} : sI f (.ok r ρ) = f r ρ := id rfl
theorem seq_nx {k : Env → SOut} : seqS (.nx ρ) k = k ρ := id rfl
theorem seq_rt {k : Env → SOut} {r : Rv} : seqS (.rt r ρ) k = .rt r ρ := id rfl
theorem fite_t {α : Type} {k l : Env → Out α} : fite k l true ρ = k ρ := id rfl
theorem fite_f {α : Type} {k l : Env → Out α} : fite k l false ρ = l ρ := id rfl
theorem gite_t {k l : Env → SOut} : gite k l true ρ = k ρ := id rfl
theorem gite_f {k l : Env → SOut} : gite k l false ρ = l ρ := id rfl
theorem fnot_e {c : Bool} : fnot c ρ = .ok (!c) ρ := id rfl
theorem gexpr_e {r : Rv} : gexpr r ρ = .nx ρ := id rfl
theorem gret_e {r : Rv} : gret r ρ = retR ρ r := id rfl
theorem fcon_e {d : D} : fcon (some d) ρ = .ok (.val d) ρ := id rfl
theorem rdc_v {d : D} : rdc ρ (.val d) = some d := id rfl
theorem rdc_o {d : D} : rdc ρ (.own d) = some d := id rfl
theorem rdc_b {i : Nat} : rdc ρ (.bor i) = (ρ[i]?).bind Slot.rd := id rfl
theorem rd_v {d : D} : Slot.rd (.val d) = some d := id rfl
theorem rd_o {d : D} : Slot.rd (.own d) = some d := id rfl
theorem rd_i {d : D} : Slot.rd (.io d) = some d := id rfl
theorem rd_l {d : D} : Slot.rd (.lk d) = some d := id rfl
def m1 (f : D → Option (Bool × D)) (o : Option D) (ρ : Env) : Out Rv := match o with | some x => mkRv (f x) ρ | none => .stuck
theorem m1_e {f : D → Option (Bool × D)} {x : D} : m1 f (some x) ρ = mkRv (f x) ρ := id rfl
theorem op1_e {f : D → Option (Bool × D)} {r : Rv} : op1 f r ρ = m1 f (rdc ρ r) ρ := id rfl
def m2 (f : D → D → Option (Bool × D)) (o p : Option D) (ρ : Env) : Out Rv := match o, p with | some x, some y => mkRv (f x y) ρ | _, _ => .stuck
theorem m2_e {f : D → D → Option (Bool × D)} {x y : D} : m2 f (some x) (some y) ρ = mkRv (f x y) ρ := id rfl
theorem op2_e {f : D → D → Option (Bool × D)} {r s : Rv} : op2 f r s ρ = m2 f (rdc ρ r) (rdc ρ s) ρ := by unfold op2 m2; rfl
theorem mk_t {d : D} : mkRv (some (true, d)) ρ = .ok (.own d) ρ := id rfl
theorem mk_f {d : D} : mkRv (some (false, d)) ρ = .ok (.val d) ρ := id rfl
def m2c (op : CmpOp) (o p : Option D) (ρ : Env) : Out Bool := match o, p with | some x, some y => (match cmpD op x y with | some c => .ok c ρ | none => .stuck) | _, _ => .stuck
def okB (o : Option Bool) (ρ : Env) : Out Bool := match o with | some c => .ok c ρ | none => .stuck
theorem okB_e {b : Bool} : okB (some b) ρ = .ok b ρ := id rfl
theorem m2c_e {op : CmpOp} {x y : D} : m2c op (some x) (some y) ρ = okB (cmpD op x y) ρ := id rfl
theorem fcmp_e {op : CmpOp} {r s : Rv} : fcmp op r s ρ = m2c op (rdc ρ r) (rdc ρ s) ρ := by unfold fcmp m2c; rfl
def m3 (op2' : CmpOp) (k : Env → Out Rv) (s : Rv) (o : Option Bool) (ρ : Env) : Out Bool := match o with | some true => b1 (fcmp op2' s) (k ρ) | some false => .ok false ρ | none => .stuck
theorem m3_t {op2' : CmpOp} {k : Env → Out Rv} {s : Rv} : m3 op2' k s (some true) ρ = b1 (fcmp op2' s) (k ρ) := id rfl
theorem m3_f {op2' : CmpOp} {k : Env → Out Rv} {s : Rv} : m3 op2' k s (some false) ρ = .ok false ρ := id rfl
def mc2 (op op2' : CmpOp) (k : Env → Out Rv) (s : Rv) (ρ : Env) (o p : Option D) : Out Bool := match o, p with | some x, some y => m3 op2' k s (cmpD op x y) ρ | _, _ => .stuck
theorem mc2_e {op op2' : CmpOp} {k : Env → Out Rv} {s : Rv} {x y : D} : mc2 op op2' k s ρ (some x) (some y) = m3 op2' k s (cmpD op x y) ρ := id rfl
theorem fcmp2_e {op op2' : CmpOp} {k : Env → Out Rv} {r s : Rv} : fcmp2 op op2' k r s ρ = mc2 op op2' k s ρ (rdc ρ r) (rdc ρ s) := by
  unfold fcmp2 mc2 m3
  cases rdc ρ r <;> cases rdc ρ s <;> rfl
theorem cmp2_e {op : CmpOp} {x y : D} : cmp2D op x y = (cmpD op x y).map fun c => (false, .bl c) := id rfl
theorem nt_e {x : D} : ntD x = (truD x).map fun b => (false, .bl (!b)) := id rfl
theorem neg_e {i : Int} : negD (.int i) = some (false, .int (-i)) := id rfl
theorem tru_bl {b : Bool} : truD (.bl b) = some b := id rfl
theorem tru_int {i : Int} : truD (.int i) = some (i != 0) := id rfl
theorem tru_non : truD .non = some false := id rfl
theorem tru1_e {r : Rv} : tru1 r ρ = okB ((rdc ρ r).bind truD) ρ := id rfl
def consO (o : Option D) (p : Option (List D)) : Option (List D) := match o, p with | some d, some ds => some (d :: ds) | _, _ => none
theorem consO_e {d : D} {ds : List D} : consO (some d) (some ds) = some (d :: ds) := id rfl
theorem rdcs_n : rdcs ρ [] = some [] := id rfl
theorem rdcs_c {r : Rv} {rs : List Rv} : rdcs ρ (r :: rs) = consO (rdc ρ r) (rdcs ρ rs) := by
  show (rdc ρ r).bind (fun d => (rdcs ρ rs).map fun ds => d :: ds) = _
  cases rdc ρ r <;> cases rdcs ρ rs <;> rfl
def mbi (b : Bi) (o : Option (List D)) (ρ : Env) : Out Rv := match o with | some ds => mkRv (biD b ds) ρ | none => .stuck
theorem bi1_e {b : Bi} {rs : List Rv} : bi1 b rs ρ = mbi b (rdcs ρ rs) ρ := id rfl
theorem mbi_e {b : Bi} {ds : List D} : mbi b (some ds) ρ = mkRv (biD b ds) ρ := id rfl
def nxO (o : Option Env) : SOut := match o with | some ρ => .nx ρ | none => .stuck
theorem nxO_e : nxO (some ρ) = .nx ρ := id rfl
theorem toVal_v {d : D} : toVal ρ (.val d) = some (d, ρ) := id rfl
theorem toVal_o {d : D} : toVal ρ (.own d) = some (d, ρ) := id rfl
def mval (i : Nat) (ρ : Env) (o : Option Slot) : Option (D × Env) := match o with
    | some (.val d) => some (d, ρ)
    | some (.own d) => some (d, ρ.set i (.val d))
    | some (.lk d) => if flatD d then some (d, ρ) else none
    | _ => none
theorem toVal_b {i : Nat} : toVal ρ (.bor i) = mval i ρ (ρ[i]?) := by unfold toVal mval; rfl
theorem mval_o {i : Nat} {d : D} : mval i ρ (some (.own d)) = some (d, ρ.set i (.val d)) := id rfl
theorem mval_v {i : Nat} {d : D} : mval i ρ (some (.val d)) = some (d, ρ) := id rfl
def mapd (d : D) (o : Option (List D × Env)) : Option (List D × Env) := match o with | some (ds, ρ) => some (d :: ds, ρ) | none => none
def tvc (rs : List Rv) (o : Option (D × Env)) : Option (List D × Env) := match o with | some (d, ρ) => mapd d (toVals rs ρ) | none => none
theorem toVals_n : toVals [] ρ = some ([], ρ) := id rfl
theorem toVals_c {r : Rv} {rs : List Rv} : toVals (r :: rs) ρ = tvc rs (toVal ρ r) := by
  show (toVal ρ r).bind _ = _
  cases h : toVal ρ r with
  | none => rfl
  | some p =>
    obtain ⟨d, ρ'⟩ := p
    show (toVals rs ρ').map _ = mapd d (toVals rs ρ')
    cases toVals rs ρ' <;> rfl
theorem tvc_e {rs : List Rv} {d : D} : tvc rs (some (d, ρ)) = mapd d (toVals rs ρ) := id rfl
theorem mapd_e {ds : List D} {d : D} : mapd d (some (ds, ρ)) = some (d :: ds, ρ) := id rfl
def mset (i : Nat) (o : Option (D × Env)) : SOut := match o with | some (d, ρ) => nxO (asg i (.val d) ρ) | none => .stuck
theorem gset_e {i : Nat} {r : Rv} : gset i r ρ = mset i (toVal ρ r) := by unfold gset mset nxO; rfl
theorem mset_e {i : Nat} {d : D} : mset i (some (d, ρ)) = nxO (asg i (.val d) ρ) := id rfl
theorem ghold_o {i : Nat} {d : D} : ghold i (.own d) ρ = nxO (asg i (.own d) ρ) := id rfl
theorem ghold_v {i : Nat} {d : D} : ghold i (.val d) ρ = nxO (asg i (.val d) ρ) := id rfl
def masg (i : Nat) (s : Slot) (ρ : Env) (o : Option Slot) : Option Env := match o with
  | none => none
  | some (.io _) => none
  | some _ => some (ρ.set i s)
theorem asg_e {i : Nat} {s : Slot} : asg i s ρ = masg i s ρ (ρ[i]?) := by unfold asg masg; rfl
theorem masg_u {i : Nat} {s : Slot} : masg i s ρ (some .un) = some (ρ.set i s) := id rfl
theorem masg_v {i : Nat} {s : Slot} {d : D} : masg i s ρ (some (.val d)) = some (ρ.set i s) := id rfl
theorem masg_o {i : Nat} {s : Slot} {d : D} : masg i s ρ (some (.own d)) = some (ρ.set i s) := id rfl
def fsub (i : Nat) (r : Rv) (b : Bool) (o : Out Rv) : SOut := if b then sE (gput i r) o else .stuck
theorem gsub_e {i : Nat} {k : Env → Out Rv} {r : Rv} : gsub i k r ρ = fsub i r (isLst ρ i) (k ρ) := id rfl
theorem fsub_e {i : Nat} {r : Rv} {o : Out Rv} : fsub i r true o = sE (gput i r) o := id rfl
def mput3 (i : Nat) (d : D) (ρ : Env) (xs : List D) (c : D → Slot) (o : Option Nat) : SOut := match o with | some n => .nx (ρ.set i (c (.lst (xs.set n d)))) | none => .stuck
def mput2 (i : Nat) (d : D) (ρ : Env) (o : Option D) (p : Option (D × (D → Slot))) : SOut := match o, p with
        | some (.int j), some (.lst xs, c) => mput3 i d ρ xs c (ixN xs.length j)
        | _, _ => .stuck
def mput (i : Nat) (s : Rv) (o : Option (D × Env)) : SOut := match o with | some (d, ρ) => mput2 i d ρ (rdc ρ s) (ownAt ρ i) | none => .stuck
theorem gput_e {i : Nat} {r s : Rv} : gput i r s ρ = mput i s (toVal ρ r) := by unfold gput mput mput2 mput3; rfl
theorem mput_e {i : Nat} {s : Rv} {d : D} : mput i s (some (d, ρ)) = mput2 i d ρ (rdc ρ s) (ownAt ρ i) := id rfl
theorem mput2_e {i : Nat} {d : D} {j : Int} {xs : List D} {c : D → Slot} : mput2 i d ρ (some (.int j)) (some (.lst xs, c)) = mput3 i d ρ xs c (ixN xs.length j) := id rfl
theorem mput3_e {i : Nat} {d : D} {n : Nat} {xs : List D} {c : D → Slot} : mput3 i d ρ xs c (some n) = .nx (ρ.set i (c (.lst (xs.set n d)))) := id rfl
theorem fapp_e {i : Nat} {o : Out Rv} : fapp i true o = b1 (app1 i) o := id rfl
def mapp3 (b : Bool) (ρ : Env) : Out Rv := if b then .ok (.val .non) ρ else .stuck
def mapp2 (i : Nat) (d : D) (ρ : Env) (o : Option (D × (D → Slot))) : Out Rv := match o with | some (.lst xs, c) => mapp3 (decide (xs.length < sizeLine)) (ρ.set i (c (.lst (xs ++ [d])))) | _ => .stuck
def mapp (i : Nat) (o : Option (D × Env)) : Out Rv := match o with | some (d, ρ) => mapp2 i d ρ (ownAt ρ i) | none => .stuck
theorem app1_e {i : Nat} {r : Rv} : app1 i r ρ = mapp i (toVal ρ r) := by unfold app1 mapp mapp2 mapp3; rfl
theorem mapp_e {i : Nat} {d : D} : mapp i (some (d, ρ)) = mapp2 i d ρ (ownAt ρ i) := id rfl
theorem mapp2_e {i : Nat} {d : D} {xs : List D} {c : D → Slot} : mapp2 i d ρ (some (.lst xs, c)) = mapp3 (decide (xs.length < sizeLine)) (ρ.set i (c (.lst (xs ++ [d])))) := id rfl
theorem mapp3_e : mapp3 true ρ = .ok (.val .non) ρ := id rfl
def mown (o : Option Slot) : Option (D × (D → Slot)) := match o with
  | some (.own d) => some (d, .own)
  | some (.io d) => some (d, .io)
  | _ => none
theorem ownAt_e {i : Nat} : ownAt ρ i = mown (ρ[i]?) := by unfold ownAt mown; rfl
theorem mown_o {d : D} : mown (some (.own d)) = some (d, .own) := id rfl
theorem mown_i {d : D} : mown (some (.io d)) = some (d, .io) := id rfl
def mlst (o : Option (D × (D → Slot))) : Bool := match o with | some (.lst _, _) => true | _ => false
theorem isLst_e {i : Nat} : isLst ρ i = mlst (ownAt ρ i) := by unfold isLst mlst; rfl
theorem mlst_e {xs : List D} {c : D → Slot} : mlst (some (.lst xs, c)) = true := id rfl
def mvar (i : Nat) (ρ : Env) (o : Option Slot) : Out Rv := match o with
  | some (.val d) => .ok (.val d) ρ
  | some .un => .stuck
  | none => .stuck
  | some _ => .ok (.bor i) ρ
theorem varE_e {i : Nat} : varE i ρ = mvar i ρ (ρ[i]?) := by unfold varE mvar; rfl
theorem mvar_v {i : Nat} {d : D} : mvar i ρ (some (.val d)) = .ok (.val d) ρ := id rfl
theorem mvar_o {i : Nat} {d : D} : mvar i ρ (some (.own d)) = .ok (.bor i) ρ := id rfl
theorem mvar_i {i : Nat} {d : D} : mvar i ρ (some (.io d)) = .ok (.bor i) ρ := id rfl
theorem mvar_l {i : Nat} {d : D} : mvar i ρ (some (.lk d)) = .ok (.bor i) ρ := id rfl
def mrng2 (b : Bool) (j : Int) (ρ : Env) : Out (List D) := if b then .ok (iotaD 0 j.toNat) ρ else .stuck
def mrng (o : Option D) (ρ : Env) : Out (List D) := match o with | some (.int j) => mrng2 (rngOk j) j ρ | _ => .stuck
theorem frng_e {r : Rv} : frng r ρ = mrng (rdc ρ r) ρ := by unfold frng mrng mrng2; rfl
theorem mrng_e {j : Int} : mrng (some (.int j)) ρ = mrng2 (rngOk j) j ρ := id rfl
theorem mrng2_e {j : Int} : mrng2 true j ρ = .ok (iotaD 0 j.toNat) ρ := id rfl
def mof2 (ρ : Env) (o : Option (List D)) : Out (List D) := match o with | some xs => .ok xs ρ | none => .stuck
def mof (o : Option (D × Env)) : Out (List D) := match o with | some (d, ρ) => mof2 ρ (itemsD d) | none => .stuck
theorem fof_e {r : Rv} : fof r ρ = mof (toSrc ρ r) := by unfold fof mof mof2; rfl
theorem mof_e {d : D} : mof (some (d, ρ)) = mof2 ρ (itemsD d) := id rfl
theorem mof2_e {xs : List D} : mof2 ρ (some xs) = .ok xs ρ := id rfl
theorem toSrc_v {d : D} : toSrc ρ (.val d) = some (d, ρ) := id rfl
theorem toSrc_o {d : D} : toSrc ρ (.own d) = some (d, ρ) := id rfl
def msrc (i : Nat) (ρ : Env) (o : Option Slot) : Option (D × Env) := match o with
    | some (.val d) => some (d, ρ)
    | some (.own d) => some (d, ρ.set i (.val d))
    | some (.lk d) => some (d, ρ)
    | _ => none
theorem toSrc_b {i : Nat} : toSrc ρ (.bor i) = msrc i ρ (ρ[i]?) := by unfold toSrc msrc; rfl
theorem msrc_o {i : Nat} {d : D} : msrc i ρ (some (.own d)) = some (d, ρ.set i (.val d)) := id rfl
theorem msrc_l {i : Nat} {d : D} : msrc i ρ (some (.lk d)) = some (d, ρ) := id rfl
theorem items_l {xs : List D} : itemsD (.lst xs) = some xs := id rfl
theorem items_t {xs : List D} : itemsD (.tup xs) = some xs := id rfl
def mtup2 (b : Bool) (r : Rv) (ρ : Env) : Out Rv := if b then .ok r ρ else .stuck
def mtup (o : Option (List D × Env)) : Out Rv := match o with | some (ds, ρ) => mtup2 (decide (ds.length ≤ sizeLine)) (.val (.tup ds)) ρ | none => .stuck
def mlis (o : Option (List D × Env)) : Out Rv := match o with | some (ds, ρ) => mtup2 (decide (ds.length ≤ sizeLine)) (.own (.lst ds)) ρ | none => .stuck
theorem ftup_e {rs : List Rv} : ftup rs ρ = mtup (toVals rs ρ) := by unfold ftup mtup mtup2; rfl
theorem flst_e {rs : List Rv} : flst rs ρ = mlis (toVals rs ρ) := by unfold flst mlis mtup2; rfl
theorem mtup_e {ds : List D} : mtup (some (ds, ρ)) = mtup2 (decide (ds.length ≤ sizeLine)) (.val (.tup ds)) ρ := id rfl
theorem mlis_e {ds : List D} : mlis (some (ds, ρ)) = mtup2 (decide (ds.length ≤ sizeLine)) (.own (.lst ds)) ρ := id rfl
theorem mtup2_e {r : Rv} : mtup2 true r ρ = .ok r ρ := id rfl
def mand (k : Env → Out Rv) (ρ : Env) (o : Option D) : Out Rv := match o with
    | some (.bl true) => k ρ
    | some (.bl false) => .ok (.val (.bl false)) ρ
    | _ => .stuck
theorem fand_e {k : Env → Out Rv} {r : Rv} : fand k r ρ = mand k ρ (rdc ρ r) := by unfold fand mand; rfl
theorem mand_t {k : Env → Out Rv} : mand k ρ (some (.bl true)) = k ρ := id rfl
theorem mand_f {k : Env → Out Rv} : mand k ρ (some (.bl false)) = .ok (.val (.bl false)) ρ := id rfl
theorem ret_v {d : D} : retR ρ (.val d) = .rt (.val d) ρ := id rfl
theorem ret_o {d : D} : retR ρ (.own d) = .rt (.own d) ρ := id rfl
def mret (i : Nat) (ρ : Env) (o : Option Slot) : SOut := match o with
    | some (.val d) => .rt (.val d) ρ
    | some (.own d) => .rt (.own d) (ρ.set i .un)
    | some (.lk d) => if flatD d then .rt (.val d) ρ else .stuck
    | _ => .stuck
theorem ret_b {i : Nat} : retR ρ (.bor i) = mret i ρ (ρ[i]?) := by unfold retR mret; rfl
theorem mret_o {i : Nat} {d : D} : mret i ρ (some (.own d)) = .rt (.own d) (ρ.set i .un) := id rfl
theorem mret_ln {i : Nat} : mret i ρ (some (.lk .non)) = .rt (.val .non) ρ := id rfl
theorem partR_t {o : Out Rv} : partR true o ρ = .ok none ρ := id rfl
theorem partR_f {o : Out Rv} : partR false o ρ = b1 intP o := id rfl
def mcall3 (r : Rv) (o : Option Env) : Out Rv := match o with | some ρ2 => .ok r ρ2 | none => .stuck
def mcall2 (ρ1 : Env) (bs : List Bk) (c : COut) : Out Rv := match c with
    | .ret (.bor _) _ => .stuck
    | .ret r outs => (match takeBack bs outs ρ1 with | some ρ2 => .ok r ρ2 | none => .stuck)
    | .exc x outs => (match takeBack bs outs ρ1 with | some ρ2 => .exc x ρ2 | none => .stuck)
    | .stuck => .stuck
def mcall (o : List Slot → COut) (p : Option (List Slot × Env × List Bk)) : Out Rv := match p with
  | none => .stuck
  | some (as, ρ1, bs) => mcall2 ρ1 bs (o as)
theorem callG_e {o : List Slot → COut} {ms : List Mode} {rs : List Rv} : callG o ms rs ρ = mcall o (give ρ ms rs) := by unfold callG mcall mcall2; rfl
theorem mcall_e {o : List Slot → COut} {as : List Slot} {bs : List Bk} : mcall o (some (as, ρ, bs)) = mcall2 ρ bs (o as) := id rfl
theorem mcall2_v {bs : List Bk} {d : D} {os : List Slot} : mcall2 ρ bs (.ret (.val d) os) = mcall3 (.val d) (takeBack bs os ρ) := id rfl
theorem mcall2_o {bs : List Bk} {d : D} {os : List Slot} : mcall2 ρ bs (.ret (.own d) os) = mcall3 (.own d) (takeBack bs os ρ) := id rfl
theorem mcall3_e {r : Rv} : mcall3 r (some ρ) = .ok r ρ := id rfl
def mnew3 (d : D) (o : Option Env) : Out Rv := match o with | some ρ2 => .ok (.own d) ρ2 | none => .stuck
def mnew2 (ρ1 : Env) (bs : List Bk) (c : COut) : Out Rv := match c with
    | .ret (.val .non) (.io d :: outs) => mnew3 d (takeBack bs (.io d :: outs) ρ1)
    | .exc x outs => (match takeBack bs outs ρ1 with | some ρ2 => .exc x ρ2 | none => .stuck)
    | _ => .stuck
def mnew (o : List Slot → COut) (p : Option (List Slot × Env × List Bk)) : Out Rv := match p with
  | some (.io d0 :: as, ρ1, bs) => mnew2 ρ1 bs (o (.io d0 :: as))
  | _ => .stuck
theorem newG_e {o : List Slot → COut} {ms : List Mode} {rs : List Rv} : newG o ms rs ρ = mnew o (give ρ ms rs) := by unfold newG mnew mnew2 mnew3; rfl
theorem mnew_e {o : List Slot → COut} {as : List Slot} {bs : List Bk} {d0 : D} : mnew o (some (.io d0 :: as, ρ, bs)) = mnew2 ρ bs (o (.io d0 :: as)) := id rfl
theorem mnew2_e {bs : List Bk} {d : D} {os : List Slot} : mnew2 ρ bs (.ret (.val .non) (.io d :: os)) = mnew3 d (takeBack bs (.io d :: os) ρ) := id rfl
theorem mnew3_e {d : D} : mnew3 d (some ρ) = .ok (.own d) ρ := id rfl
def gvm (s : Slot) (b : Bk) (o : Option (List Slot × Env × List Bk)) : Option (List Slot × Env × List Bk) := match o with | some (as, ρ, bs) => some (s :: as, ρ, b :: bs) | none => none
def gvc (ms : List Mode) (rs : List Rv) (o : Option (Slot × Env × Bk)) : Option (List Slot × Env × List Bk) := match o with | some (s, ρ, b) => gvm s b (give ρ ms rs) | none => none
theorem give_n : give ρ [] [] = some ([], ρ, []) := id rfl
theorem give_c {m : Mode} {ms : List Mode} {r : Rv} {rs : List Rv} : give ρ (m :: ms) (r :: rs) = gvc ms rs (give1 ρ m r) := by
  show (give1 ρ m r).bind _ = _
  cases give1 ρ m r with
  | none => rfl
  | some p =>
    obtain ⟨s, ρ', b⟩ := p
    show (give ρ' ms rs).map _ = gvm s b (give ρ' ms rs)
    cases give ρ' ms rs <;> rfl
theorem gvc_e {ms : List Mode} {rs : List Rv} {s : Slot} {b : Bk} : gvc ms rs (some (s, ρ, b)) = gvm s b (give ρ ms rs) := id rfl
theorem gvm_e {s : Slot} {b : Bk} {as : List Slot} {bs : List Bk} : gvm s b (some (as, ρ, bs)) = some (s :: as, ρ, b :: bs) := id rfl
def mg1 (o : Option (D × Env)) : Option (Slot × Env × Bk) := match o with | some (d, ρ) => some (.val d, ρ, none) | none => none
theorem give_v {r : Rv} : give1 ρ .v r = mg1 (toVal ρ r) := by
  show (toVal ρ r).map _ = mg1 (toVal ρ r)
  cases toVal ρ r <;> rfl
theorem mg1_e {d : D} : mg1 (some (d, ρ)) = some (.val d, ρ, none) := id rfl
theorem give_rv {d : D} : give1 ρ .r (.val d) = some (.lk d, ρ, none) := id rfl
theorem give_ro {d : D} : give1 ρ .r (.own d) = some (.lk d, ρ, none) := id rfl
def mgr (i : Nat) (ρ : Env) (o : Option Slot) : Option (Slot × Env × Bk) := match o with
    | some (.own d) => some (.lk d, ρ.set i .un, some (i, .own, d))
    | some (.io d) => some (.lk d, ρ.set i .un, some (i, .io, d))
    | some (.val d) => some (.lk d, ρ, none)
    | some (.lk d) => some (.lk d, ρ, none)
    | _ => none
theorem give_rb {i : Nat} : give1 ρ .r (.bor i) = mgr i ρ (ρ[i]?) := by
  unfold give1 mgr ownAt
  dsimp only
  cases ρ[i]? with
  | none => rfl
  | some s => cases s <;> rfl
theorem mgr_o {i : Nat} {d : D} : mgr i ρ (some (.own d)) = some (.lk d, ρ.set i .un, some (i, .own, d)) := id rfl
theorem mgr_i {i : Nat} {d : D} : mgr i ρ (some (.io d)) = some (.lk d, ρ.set i .un, some (i, .io, d)) := id rfl
theorem mgr_l {i : Nat} {d : D} : mgr i ρ (some (.lk d)) = some (.lk d, ρ, none) := id rfl
theorem give_mo {d : D} : give1 ρ .m (.own d) = some (.io d, ρ, none) := id rfl
def mgm (i : Nat) (ρ : Env) (o : Option Slot) : Option (Slot × Env × Bk) := match o with
    | some (.own d) => some (.io d, ρ.set i .un, some (i, .own, d))
    | some (.io d) => some (.io d, ρ.set i .un, some (i, .io, d))
    | _ => none
theorem give_mb {i : Nat} : give1 ρ .m (.bor i) = mgm i ρ (ρ[i]?) := by
  unfold give1 mgm ownAt
  dsimp only
  cases ρ[i]? with
  | none => rfl
  | some s => cases s <;> rfl
theorem mgm_o {i : Nat} {d : D} : mgm i ρ (some (.own d)) = some (.io d, ρ.set i .un, some (i, .own, d)) := id rfl
theorem mgm_i {i : Nat} {d : D} : mgm i ρ (some (.io d)) = some (.io d, ρ.set i .un, some (i, .io, d)) := id rfl
def mtb2 (i : Nat) (s : Slot) (ρ : Env) (o : Option Slot) : Option Env := match o with | some .un => some (ρ.set i s) | _ => none
def mtb (i : Nat) (s : Slot) (o : Option Env) : Option Env := match o with | some ρ => mtb2 i s ρ (ρ[i]?) | none => none
theorem tb_n : takeBack [] [] ρ = some ρ := id rfl
theorem tb_0 {bs : List Bk} {o : Slot} {os : List Slot} : takeBack (none :: bs) (o :: os) ρ = takeBack bs os ρ := id rfl
theorem tb_i {bs : List Bk} {i : Nat} {k : D → Slot} {d d' : D} {os : List Slot} : takeBack (some (i, k, d) :: bs) (.io d' :: os) ρ = mtb i (k d') (takeBack bs os ρ) := by
  show (takeBack bs os ρ).bind _ = _
  cases takeBack bs os ρ with
  | none => rfl
  | some ρ' =>
    show (match ρ'[i]? with | some .un => some (ρ'.set i (k d')) | _ => none) = mtb2 i (k d') ρ' (ρ'[i]?)
    unfold mtb2
    cases ρ'[i]? with
    | none => rfl
    | some s => cases s <;> rfl
theorem tb_u {bs : List Bk} {i : Nat} {k : D → Slot} {d : D} {os : List Slot} : takeBack (some (i, k, d) :: bs) (.un :: os) ρ = mtb i (k d) (takeBack bs os ρ) := by
  show (takeBack bs os ρ).bind _ = _
  cases takeBack bs os ρ with
  | none => rfl
  | some ρ' =>
    show (match ρ'[i]? with | some .un => some (ρ'.set i (k d)) | _ => none) = mtb2 i (k d) ρ' (ρ'[i]?)
    unfold mtb2
    cases ρ'[i]? with
    | none => rfl
    | some s => cases s <;> rfl
theorem mtb_e {i : Nat} {s : Slot} : mtb i s (some ρ) = mtb2 i s ρ (ρ[i]?) := id rfl
theorem mtb2_e {i : Nat} {s : Slot} : mtb2 i s ρ (some .un) = some (ρ.set i s) := id rfl
def mfin (r : Rv) (o : Option (List Slot)) : COut := match o with | some os => .ret r os | none => .stuck
theorem fin_n {as : List Slot} : finC as (.nx ρ) = mfin (.val .non) (outsOf as ρ) := id rfl
theorem fin_r {as : List Slot} {r : Rv} : finC as (.rt r ρ) = mfin r (outsOf as ρ) := id rfl
theorem mfin_e {r : Rv} {os : List Slot} : mfin r (some os) = .ret r os := id rfl
def mou (s : Slot) (o : Option (List Slot)) : Option (List Slot) := match o with | some os => some (s :: os) | none => none
theorem mou_e {s : Slot} {os : List Slot} : mou s (some os) = some (s :: os) := id rfl
theorem ou_n : outsOf [] ρ = some [] := id rfl
theorem ou_i {d d' : D} {as : List Slot} : outsOf (.io d :: as) (.io d' :: ρ) = mou (.io d') (outsOf as ρ) := by
  show (outsOf as ρ).map _ = _
  cases outsOf as ρ <;> rfl
theorem ou_v {d : D} {s : Slot} {as : List Slot} : outsOf (.val d :: as) (s :: ρ) = mou .un (outsOf as ρ) := by
  show (outsOf as ρ).map _ = _
  cases outsOf as ρ <;> rfl
theorem ou_l {d : D} {s : Slot} {as : List Slot} : outsOf (.lk d :: as) (s :: ρ) = mou .un (outsOf as ρ) := by
  show (outsOf as ρ).map _ = _
  cases outsOf as ρ <;> rfl
def matt3 (b : Bool) (ρ : Env) : SOut := if b then .nx ρ else .stuck
def matt2 (T : Tab) (i f : Nat) (d : D) (ρ : Env) (o : Option (D × (D → Slot))) : SOut := match o with
    | some (.ins C fs, c) => matt3 (decide (fs.length < 1000) && (T.flds C).contains f) (ρ.set i (c (.ins C (putD f d fs))))
    | _ => .stuck
def matt (T : Tab) (i f : Nat) (o : Option (D × Env)) : SOut := match o with | some (d, ρ) => matt2 T i f d ρ (ownAt ρ i) | none => .stuck
theorem gatt_e {i f : Nat} {r : Rv} : gatt T i f r ρ = matt T i f (toVal ρ r) := by unfold gatt matt matt2 matt3; rfl
theorem matt_e {i f : Nat} {d : D} : matt T i f (some (d, ρ)) = matt2 T i f d ρ (ownAt ρ i) := id rfl
theorem matt2_e {i f C : Nat} {d : D} {fs : List (Nat × D)} {c : D → Slot} : matt2 T i f d ρ (some (.ins C fs, c)) = matt3 (decide (fs.length < 1000) && (T.flds C).contains f) (ρ.set i (c (.ins C (putD f d fs)))) := id rfl
theorem matt3_e : matt3 true ρ = .nx ρ := id rfl
theorem getI0 {x : Slot} {r : List Slot} : (x :: r)[0]? = some x := id rfl
theorem getI1 {x : Slot} {r : List Slot} {n : Nat} : (x :: r)[n + 1]? = r[n]? := id rfl
theorem setI0 {x y : Slot} {r : List Slot} : (x :: r).set 0 y = y :: r := id rfl
theorem setI1 {x y : Slot} {r : List Slot} {n : Nat} : (x :: r).set (n + 1) y = x :: r.set n y := id rfl
theorem omap_s {α β : Type} {f : α → β} {x : α} : (some x).map f = some (f x) := id rfl
theorem obind_s {α β : Type} {f : α → Option β} {x : α} : (some x).bind f = f x := id rfl
theorem nic_n : isNonC .non = true := id rfl
theorem nic_i {i : Int} : isNonC (.int i) = false := id rfl
end
end Wf

/-! Wf: plain lemmas about the small code's meaning -/
namespace Wf
open PySem PySem.Spec PyProof.Rows L2
/-! ### tables -/
def tab (g : Nat → D) (n : Nat) : List D := (List.range n).map g
abbrev tabI (g : Nat → Int) (n : Nat) : List D := tab (fun i => .int (g i)) n
theorem tab_len {g : Nat → D} {n : Nat} : (tab g n).length = n := by simp [tab]
theorem tab_get {g : Nat → D} {n i : Nat} (h : i < n) : (tab g n)[i]? = some (g i) := by simp [tab, h]
theorem tab_congr {g f : Nat → D} {n : Nat} (h : ∀ i, i < n → g i = f i) : tab g n = tab f n := by
  unfold tab
  exact List.map_congr_left fun i hi => h i (List.mem_range.mp hi)
theorem tab_set {g : Nat → D} {n i : Nat} {v : D} : (tab g n).set i v = tab (fun k => if k = i then v else g k) n := by
  apply List.ext_getElem?
  intro j
  unfold tab
  rw [List.getElem?_set]
  by_cases hj : i = j
  · subst hj
    rw [if_pos rfl]
    by_cases h : i < n
    · simp [h]
    · simp [h]
  · rw [if_neg hj]
    by_cases h : j < n
    · simp [h, Ne.symm hj]
    · simp [h]
theorem tab_succ {g : Nat → D} {n : Nat} : tab g (n + 1) = tab g n ++ [g n] := by
  unfold tab
  rw [List.range_succ, List.map_append]; rfl
theorem iota_tab : ∀ (n : Nat) (lo : Int), iotaD lo n = tab (fun i => .int (lo + i)) n
  | 0, lo => rfl
  | n + 1, lo => by
    unfold iotaD tab
    rw [List.range_succ_eq_map, List.map_cons, List.map_map, iota_tab n (lo + 1)]
    unfold tab
    congr 1
    · simp
    · apply List.map_congr_left
      intro i _
      show D.int (lo + 1 + (i : Int)) = D.int (lo + ((i + 1 : Nat) : Int))
      congr 1
      omega
theorem ixN_nat {n k : Nat} (h : k < n) : ixN n (k : Int) = some k := by
  unfold ixN
  rw [if_pos (Int.natCast_nonneg k), if_pos (by omega)]
  simp
theorem atI_nat {α : Type} {xs : List α} {k : Nat} (h : k < xs.length) : atI xs (k : Int) = xs[k]? := by
  unfold atI
  rw [ixN_nat h]; rfl
theorem atI_tab {g : Nat → D} {n k : Nat} (h : k < n) : atI (tab g n) (k : Int) = some (g k) := by
  rw [atI_nat (by rw [tab_len]; exact h), tab_get h]
theorem subD_tab {g : Nat → D} {n k : Nat} (h : k < n) : subD (.lst (tab g n)) (.int (k : Int)) = some (g k) := atI_tab h
theorem sub2_tab {g : Nat → D} {n k : Nat} (h : k < n) : sub2 (.lst (tab g n)) (.int (k : Int)) = some (false, g k) := by
  show (subD _ _).map _ = _
  rw [subD_tab h]; rfl
/-! ### loops -/
/-- a loop over 0 .. n-1 with an invariant -/
theorem forLoop_iota {bd : D → Env → Option Env} {body : Env → SOut} (Inv : Nat → Env → Prop) : ∀ (n k : Nat) (ρ : Env),
    (∀ i ρ, k ≤ i → i < k + n → Inv i ρ → ∃ ρ1 ρ2, bd (.int (i : Nat)) ρ = some ρ1 ∧ body ρ1 = .nx ρ2 ∧ Inv (i + 1) ρ2) → Inv k ρ → ∃ ρ', forLoop bd body (iotaD (k : Nat) n) ρ = .nx ρ' ∧ Inv (k + n) ρ'
  | 0, k, ρ, _, h => ⟨ρ, rfl, h⟩
  | n + 1, k, ρ, st, h => by
    obtain ⟨ρ1, ρ2, e1, e2, h2⟩ := st k ρ (Nat.le_refl _) (by omega) h
    obtain ⟨ρ', e3, h3⟩ := forLoop_iota Inv n (k + 1) ρ2 (fun i ρ h1 h2 => st i ρ (by omega) (by omega)) h2
    refine ⟨ρ', ?_, by rw [show k + (n + 1) = k + 1 + n by omega]; exact h3⟩
    show forLoop bd body (.int (k : Nat) :: iotaD ((k : Nat) + 1) n) ρ = _
    simp only [forLoop, e1, e2]
    rw [show ((k : Nat) : Int) + 1 = ((k + 1 : Nat) : Int) by omega]
    exact e3
theorem for0 {bd : D → Env → Option Env} {body : Env → SOut} (Inv : Nat → Env → Prop) {n : Nat} {ρ : Env} (h : Inv 0 ρ)
    (st : ∀ i ρ, i < n → Inv i ρ → ∃ ρ1 ρ2, bd (.int (i : Nat)) ρ = some ρ1 ∧ body ρ1 = .nx ρ2 ∧ Inv (i + 1) ρ2) : ∃ ρ', forLoop bd body (iotaD 0 n) ρ = .nx ρ' ∧ Inv n ρ' := by
  have := forLoop_iota Inv n 0 ρ (fun i ρ _ h => st i ρ (by omega)) h
  rw [Nat.zero_add] at this
  exact this
/-- a loop that may return r: it does so at the first turn whose c fails -/
theorem forLoop_test {bd : D → Env → Option Env} {body : Env → SOut} (c : Nat → Bool) (r : Rv) (Inv : Nat → Env → Prop) (Out : Env → Prop) : ∀ (n k : Nat) (ρ : Env),
    (∀ i ρ, k ≤ i → i < k + n → Inv i ρ → ∃ ρ1, bd (.int (i : Nat)) ρ = some ρ1 ∧ ((c i = true ∧ ∃ ρ2, body ρ1 = .nx ρ2 ∧ Inv (i + 1) ρ2) ∨ (c i = false ∧ ∃ ρ2, body ρ1 = .rt r ρ2 ∧ Out ρ2))) → Inv k ρ →
      ((∀ i, k ≤ i → i < k + n → c i = true) ∧ ∃ ρ', forLoop bd body (iotaD (k : Nat) n) ρ = .nx ρ' ∧ Inv (k + n) ρ') ∨ ((∃ i, k ≤ i ∧ i < k + n ∧ c i = false) ∧ ∃ ρ', forLoop bd body (iotaD (k : Nat) n) ρ = .rt r ρ' ∧ Out ρ')
  | 0, k, ρ, _, h => .inl ⟨fun i h1 h2 => by omega, ρ, rfl, h⟩
  | n + 1, k, ρ, st, h => by
    obtain ⟨ρ1, e1, h2⟩ := st k ρ (Nat.le_refl _) (by omega) h
    rcases h2 with ⟨hc, ρ2, e2, h2⟩ | ⟨hc, ρ2, e2, h2⟩
    · have e : forLoop bd body (iotaD (k : Nat) (n + 1)) ρ = forLoop bd body (iotaD ((k + 1 : Nat) : Int) n) ρ2 := by
        show forLoop bd body (.int (k : Nat) :: iotaD ((k : Nat) + 1) n) ρ = _
        simp only [forLoop, e1, e2]
        rw [show ((k : Nat) : Int) + 1 = ((k + 1 : Nat) : Int) by omega]
      rw [e]
      rcases forLoop_test c r Inv Out n (k + 1) ρ2 (fun i ρ h1 h2 => st i ρ (by omega) (by omega)) h2 with ⟨q, h3⟩ | ⟨⟨i, i1, i2, i3⟩, h3⟩
      · refine .inl ⟨fun i h1 h2 => ?_, by rw [show k + (n + 1) = k + 1 + n by omega]; exact h3⟩
        by_cases hi : i = k
        · rw [hi]; exact hc
        · exact q i (by omega) (by omega)
      · exact .inr ⟨⟨i, by omega, by omega, i3⟩, h3⟩
    · refine .inr ⟨⟨k, Nat.le_refl _, by omega, hc⟩, ρ2, ?_, h2⟩
      show forLoop bd body (.int (k : Nat) :: iotaD ((k : Nat) + 1) n) ρ = _
      simp only [forLoop, e1, e2]
theorem forT {bd : D → Env → Option Env} {body : Env → SOut} (c : Nat → Bool) (r : Rv) (Inv : Nat → Env → Prop) (Out : Env → Prop) {n : Nat} {ρ : Env} (h : Inv 0 ρ)
    (st : ∀ i ρ, i < n → Inv i ρ → ∃ ρ1, bd (.int (i : Nat)) ρ = some ρ1 ∧ ((c i = true ∧ ∃ ρ2, body ρ1 = .nx ρ2 ∧ Inv (i + 1) ρ2) ∨ (c i = false ∧ ∃ ρ2, body ρ1 = .rt r ρ2 ∧ Out ρ2))) :
      ((∀ i, i < n → c i = true) ∧ ∃ ρ', forLoop bd body (iotaD 0 n) ρ = .nx ρ' ∧ Inv n ρ') ∨ ((∃ i, i < n ∧ c i = false) ∧ ∃ ρ', forLoop bd body (iotaD 0 n) ρ = .rt r ρ' ∧ Out ρ') := by
  have := forLoop_test c r Inv Out n 0 ρ (fun i ρ _ h => st i ρ (by omega)) h
  rw [Nat.zero_add] at this
  rcases this with ⟨a, b⟩ | ⟨⟨i, _, a, b⟩, d⟩
  · exact .inl ⟨fun i hi => a i (Nat.zero_le _) hi, b⟩
  · exact .inr ⟨⟨i, a, b⟩, d⟩
/-- a loop over a list, by its items' places -/
theorem forL {bd : D → Env → Option Env} {body : Env → SOut} (Inv : Nat → Env → Prop) : ∀ (xs : List D) (k : Nat) (ρ : Env),
    (∀ i x ρ, xs[i]? = some x → Inv (k + i) ρ → ∃ ρ1 ρ2, bd x ρ = some ρ1 ∧ body ρ1 = .nx ρ2 ∧ Inv (k + i + 1) ρ2) → Inv k ρ → ∃ ρ', forLoop bd body xs ρ = .nx ρ' ∧ Inv (k + xs.length) ρ'
  | [], k, ρ, _, h => ⟨ρ, rfl, h⟩
  | x :: xs, k, ρ, st, h => by
    obtain ⟨ρ1, ρ2, e1, e2, h2⟩ := st 0 x ρ rfl h
    obtain ⟨ρ', e3, h3⟩ := forL Inv xs (k + 1) ρ2 (fun i y ρ hy hi => by
      have := st (i + 1) y ρ (by simpa using hy) (by rw [show k + (i + 1) = k + 1 + i by omega]; exact hi)
      rw [show k + (i + 1) + 1 = k + 1 + i + 1 by omega] at this
      exact this) h2
    refine ⟨ρ', ?_, by rw [List.length_cons, show k + (xs.length + 1) = k + 1 + xs.length by omega]; exact h3⟩
    simp only [forLoop, e1, e2]
    exact e3
/-! ### comprehensions -/
theorem compLoop_map {bd : D → Env → Option Env} {ct : Env → Out Bool} {ev : Env → Out Rv} {vs : List Nat} (c : D → Bool) (f : D → D) {ρ : Env} : ∀ (xs acc : List D),
    (∀ x, x ∈ xs → ∃ ρ1, bd x ρ = some ρ1 ∧ ct ρ1 = .ok (c x) ρ1 ∧ (c x = true → ev ρ1 = .ok (.val (f x)) ρ1) ∧ clear vs ρ1 = ρ) → acc.length + xs.length ≤ sizeLine →
      compLoop bd ct ev vs xs acc ρ = .ok (acc ++ (xs.filter c).map f) ρ
  | [], acc, _, _ => by simp [compLoop]
  | x :: xs, acc, h, hz => by
    obtain ⟨ρ1, e1, e2, e3, e4⟩ := h x (List.mem_cons_self ..)
    rw [List.length_cons] at hz
    simp only [compLoop, e1, e2, Out.noex, Out.bind]
    by_cases hc : c x = true
    · rw [if_pos hc, e3 hc]
      simp only [Out.noex, toVal]
      rw [if_pos (by rw [decide_eq_true_eq]; omega), e4, compLoop_map c f xs _ (fun y hy => h y (List.mem_cons_of_mem _ hy)) (by rw [List.length_append, List.length_singleton]; omega)]
      simp [hc]
    · rw [if_neg hc, e4, compLoop_map c f xs _ (fun y hy => h y (List.mem_cons_of_mem _ hy)) (by omega)]
      simp [hc]
/-! ### numbers -/
theorem pow_cast (h : Nat) : ((2 : Int) ^ h) = ((2 ^ h : Nat) : Int) := by simp
theorem shl1 {h : Nat} (hh : h ≤ 1000000) : binD .LShift (.int 1) (.int (h : Int)) = some (false, .int ((2 ^ h : Nat) : Int)) := by
  unfold binD powOk smallI
  simp only
  rw [if_pos (by simp; omega)]
  simp
theorem band_nat (a b : Nat) : Builtin.bitAnd (a : Int) (b : Int) = ((a &&& b : Nat) : Int) := by
  rw [PySem.W.os_band]
theorem bor_nat (a b : Nat) : Builtin.bitOr (a : Int) (b : Int) = ((a ||| b : Nat) : Int) := by
  rw [L2.bitOr_nn (Int.natCast_nonneg _) (Int.natCast_nonneg _)]; simp
theorem bit_test (m j : Nat) : (m &&& 2 ^ j = 0) ↔ m.testBit j = false := by
  constructor
  · intro h
    have := congrArg (fun x => x.testBit j) h
    simpa [Nat.testBit_and, Nat.testBit_two_pow] using this
  · intro h
    apply Nat.eq_of_testBit_eq
    intro i
    rw [Nat.testBit_and, Nat.testBit_two_pow, Nat.zero_testBit]
    by_cases hi : j = i
    · subst hi; simp [h]
    · simp [hi]
theorem divOk_small {m : Int} (h1 : 0 < m) (h2 : m < 1000000) : divOk m = true := by
  unfold divOk
  rw [decide_eq_true h1]
  have : m.natAbs.log2 < 9000 := by
    have h3 : m.natAbs < 2 ^ 20 := by omega
    by_cases h0 : m.natAbs = 0
    · omega
    · exact Nat.lt_of_lt_of_le ((Nat.log2_lt h0).mpr h3) (by decide)
  simpa using this
/-! ### small steps -/
theorem bAdd {i j : Int} : binD .Add (.int i) (.int j) = some (false, .int (i + j)) := id rfl
theorem bSub {i j : Int} : binD .Sub (.int i) (.int j) = some (false, .int (i - j)) := id rfl
theorem bMul {i j : Int} (h : mulOk i j = true) : binD .Mult (.int i) (.int j) = some (false, .int (i * j)) := by
  unfold binD; simp only [h, if_true]
theorem bDiv {i j : Int} (h : divOk j = true) : binD .FloorDiv (.int i) (.int j) = some (false, .int (i / j)) := by
  unfold binD; simp only [h, if_true]
theorem bMod {i j : Int} (h : 0 < j) : binD .Mod (.int i) (.int j) = some (false, .int (i % j)) := by
  unfold binD; simp only [decide_eq_true h, if_true]
theorem cLt {i j : Int} : cmpD .Lt (.int i) (.int j) = some (decide (i < j)) := id rfl
theorem cLe {i j : Int} : cmpD .LtE (.int i) (.int j) = some (decide (i ≤ j)) := id rfl
theorem cGt {i j : Int} : cmpD .Gt (.int i) (.int j) = some (decide (j < i)) := id rfl
theorem cGe {i j : Int} : cmpD .GtE (.int i) (.int j) = some (decide (j ≤ i)) := id rfl
theorem cEq {i j : Int} : cmpD .Eq (.int i) (.int j) = some (decide (i = j)) := id rfl
theorem cNe {i j : Int} : cmpD .NotEq (.int i) (.int j) = some (!decide (i = j)) := id rfl
theorem mulOk_l {i j : Int} (h : smallI i = true) : mulOk i j = true := by simp [mulOk, h]
theorem mulOk_r {i j : Int} (h : smallI j = true) : mulOk i j = true := by simp [mulOk, h]
theorem sub20 {x y : D} : sub2 (.lst [x, y]) (.int 0) = some (false, x) := id rfl
theorem sub21 {x y : D} : sub2 (.lst [x, y]) (.int 1) = some (false, y) := id rfl
theorem subt20 {x y : D} : sub2 (.tup [x, y]) (.int 0) = some (false, x) := id rfl
theorem subt21 {x y : D} : sub2 (.tup [x, y]) (.int 1) = some (false, y) := id rfl
theorem ix20 {x y : D} : ixN ([x, y] : List D).length 0 = some 0 := id rfl
theorem ix21 {x y : D} : ixN ([x, y] : List D).length 1 = some 1 := id rfl
theorem bi_int {i : Int} : biD .int [.int i] = some (false, .int i) := id rfl
theorem bi_len {ds : List D} : biD .len [.lst ds] = some (false, .int ds.length) := id rfl
theorem sz_small {n : Nat} (h : n ≤ 1000) : n < sizeLine := Nat.lt_of_le_of_lt h (by decide)
def FreeS (s : Slot) : Prop := s = .un ∨ ∃ d, s = .val d
theorem FreeS.un : FreeS .un := .inl rfl
theorem FreeS.val {d : D} : FreeS (.val d) := .inr ⟨d, rfl⟩
theorem asg_free {i : Nat} {s t : Slot} {ρ : Env} (h : ρ[i]? = some s) (hs : FreeS s) : asg i t ρ = some (ρ.set i t) := by
  unfold asg
  rw [h]
  rcases hs with rfl | ⟨d, rfl⟩ <;> rfl
theorem masg_f {i : Nat} {s t : Slot} {ρ : Env} (hs : FreeS s) : masg i t ρ (some s) = some (ρ.set i t) := by
  rcases hs with rfl | ⟨d, rfl⟩ <;> rfl
theorem set_back {i : Nat} {s t : Slot} {ρ : Env} (h : ρ[i]? = some s) : (ρ.set i t).set i s = ρ := by
  rw [List.set_set]
  apply List.ext_getElem?
  intro j
  rw [List.getElem?_set]
  by_cases e : i = j
  · subst e
    rw [if_pos rfl, if_pos (List.getElem?_eq_some_iff.mp h).1, h]
  · rw [if_neg e]
/-- a comprehension with one name, over a list -/
theorem cmp1 {T : Tab} {cl : Cl} {e cond : Ex} {i : Nat} {s : Slot} {ρ : Env} {xs : List D} (c : D → Bool) (f : D → D) (h : ρ[i]? = some s) (hs : FreeS s) (hz : xs.length ≤ sizeLine)
    (step : ∀ x, x ∈ xs → evalT T cl cond (ρ.set i (.val x)) = .ok (c x) (ρ.set i (.val x)) ∧ (c x = true → evalE T cl e (ρ.set i (.val x)) = .ok (.val (f x)) (ρ.set i (.val x)))) :
    cmpB T cl e (.name i) cond xs ρ = .ok (.own (.lst ((xs.filter c).map f))) ρ := by
  have hi : i < ρ.length := (List.getElem?_eq_some_iff.mp h).1
  have h1 : (ρ.set i .un)[i]? = some .un := by rw [List.getElem?_set]; simp [hi]
  have h2 : (ρ.getD i .un) = s := by rw [List.getD_eq_getElem?_getD, h]; rfl
  unfold cmpB
  have hf : (slotsT (.name i)).all (freeSlot ρ) = true := by
    show (freeSlot ρ i && true) = true
    unfold freeSlot
    rw [h]
    rcases hs with rfl | ⟨d, rfl⟩ <;> rfl
  rw [if_pos hf]
  show (compLoop (bindT (.name i)) (evalT T cl cond) (evalE T cl e) [i] xs [] (ρ.set i .un)).bind _ = _
  rw [compLoop_map c f xs [] (fun x hx => ?_) (by simpa using hz)]
  · show Out.ok (Rv.own (D.lst ([] ++ _))) ((ρ.set i .un).set i (ρ.getD i .un)) = _
    rw [h2, set_back h, List.nil_append]
  · obtain ⟨q1, q2⟩ := step x hx
    refine ⟨ρ.set i (.val x), ?_, q1, q2, ?_⟩
    · show asg i (.val x) (ρ.set i .un) = _
      rw [asg_free h1 FreeS.un, List.set_set]
    · show (ρ.set i (.val x)).set i .un = _
      rw [List.set_set]
theorem iota_range : ∀ (n : Nat) (k : Nat), iotaD (k : Int) n = ((List.range n).map (k + ·)).map fun i : Nat => D.int (i : Int)
  | 0, k => rfl
  | n + 1, k => by
    show D.int (k : Int) :: iotaD ((k : Int) + 1) n = _
    rw [show (k : Int) + 1 = ((k + 1 : Nat) : Int) by omega, iota_range n (k + 1), List.range_succ_eq_map]
    simp only [List.map_cons, List.map_map, Nat.add_zero]
    congr 1
    apply List.map_congr_left
    intro i _
    show D.int ((k + 1 + i : Nat) : Int) = D.int ((k + (i + 1) : Nat) : Int)
    rw [show k + 1 + i = k + (i + 1) by omega]
theorem iota0 (n : Nat) : iotaD 0 n = (List.range n).map fun i : Nat => D.int (i : Int) := by
  have := iota_range n 0
  simpa using this
/-- over 0 .. n-1, with a test -/
theorem cmpR {T : Tab} {cl : Cl} {e cond : Ex} {i n : Nat} {s : Slot} {ρ : Env} (p : Nat → Bool) (f : Nat → D) (h : ρ[i]? = some s) (hs : FreeS s) (hz : n ≤ 1000)
    (step : ∀ k : Nat, k < n → evalT T cl cond (ρ.set i (.val (.int k))) = .ok (p k) (ρ.set i (.val (.int k))) ∧ (p k = true → evalE T cl e (ρ.set i (.val (.int k))) = .ok (.val (f k)) (ρ.set i (.val (.int k))))) :
    cmpB T cl e (.name i) cond (iotaD 0 n) ρ = .ok (.own (.lst (((List.range n).filter p).map f))) ρ := by
  let nat : D → Nat := fun d => match d with | .int j => j.toNat | _ => 0
  rw [iota0, cmp1 (c := fun d => p (nat d)) (f := fun d => f (nat d)) h hs (by rw [List.length_map, List.length_range]; exact Nat.le_of_lt (sz_small hz)) (fun x hx => ?_)]
  · congr 3
    rw [List.filter_map, List.map_map]
    have e1 : ((fun d => p (nat d)) ∘ fun i : Nat => D.int (i : Int)) = p := by funext k; show p (Int.toNat (k : Int)) = p k; rw [Int.toNat_natCast]
    have e2 : ((fun d => f (nat d)) ∘ fun i : Nat => D.int (i : Int)) = f := by funext k; show f (Int.toNat (k : Int)) = f k; rw [Int.toNat_natCast]
    rw [e1, e2]
  · obtain ⟨k, hk, rfl⟩ := List.mem_map.mp hx
    have hk := List.mem_range.mp hk
    have := step k hk
    show evalT T cl cond (ρ.set i (.val (.int (k : Int)))) = .ok (p (Int.toNat (k : Int))) _ ∧ (p (Int.toNat (k : Int)) = true → evalE T cl e _ = .ok (.val (f (Int.toNat (k : Int)))) _)
    rw [Int.toNat_natCast]
    exact this
/-- over 0 .. n-1, without a test -/
theorem cmpA {T : Tab} {cl : Cl} {e : Ex} {i n : Nat} {s : Slot} {ρ : Env} (f : Nat → D) (h : ρ[i]? = some s) (hs : FreeS s) (hz : n ≤ 1000)
    (step : ∀ k : Nat, k < n → evalE T cl e (ρ.set i (.val (.int k))) = .ok (.val (f k)) (ρ.set i (.val (.int k)))) :
    cmpB T cl e (.name i) (.bl true) (iotaD 0 n) ρ = .ok (.own (.lst (tab f n))) ρ := by
  rw [cmpR (fun _ => true) f h hs hz fun k hk => ⟨by rw [t_bl], fun _ => step k hk⟩]
  rw [show (List.range n).filter (fun _ => true) = List.range n from List.filter_eq_self.mpr (by simp)]; rfl
theorem ixN_tab {g : Nat → D} {n k : Nat} (h : k < n) : ixN (tab g n).length (k : Int) = some k := by rw [tab_len]; exact ixN_nat h
theorem bAnd {a b : Nat} : binD .BitAnd (.int (a : Int)) (.int (b : Int)) = some (false, .int ((a &&& b : Nat) : Int)) := by
  show some (false, D.int (Builtin.bitAnd _ _)) = _
  rw [band_nat]
theorem bOr {a b : Nat} : binD .BitOr (.int (a : Int)) (.int (b : Int)) = some (false, .int ((a ||| b : Nat) : Int)) := by
  show some (false, D.int (Builtin.bitOr _ _)) = _
  rw [bor_nat]
theorem rngOk_of {i : Int} (h : 0 ≤ i) (h2 : i < 2 ^ 62) : rngOk i = true := by
  unfold rngOk
  rw [decide_eq_true_eq]; omega
theorem rngOk_pow {h : Nat} (hh : h ≤ 7) : rngOk ((2 ^ h : Nat) : Int) = true := by
  have : 2 ^ h ≤ 2 ^ 7 := Nat.pow_le_pow_right (by decide) hh
  generalize 2 ^ h = p at this ⊢
  exact rngOk_of (by omega) (by omega)
theorem bi_lenT {g : Nat → D} {n : Nat} : biD .len [.lst (tab g n)] = some (false, .int (n : Int)) := by rw [bi_len, tab_len]
theorem intsD_map : ∀ l : List Int, intsD (l.map .int) = some l
  | [] => rfl
  | i :: l => by
    show (intsD (l.map .int)).map _ = _
    rw [intsD_map l]; rfl
theorem bi_sum {l : List Int} : biD .sum [.lst (l.map .int)] = some (false, .int l.sum) := by
  show (intsD _).map _ = _
  rw [intsD_map]; rfl
theorem tabI_map {a : Nat → Int} {n : Nat} : tabI a n = ((List.range n).map a).map .int := by
  unfold tabI tab
  rw [List.map_map]; rfl
/-- the sum of a table -/
def sumT (a : Nat → Int) : Nat → Int
  | 0 => 0
  | n + 1 => sumT a n + a n
theorem sumT_range (a : Nat → Int) : ∀ n, ((List.range n).map a).sum = sumT a n
  | 0 => rfl
  | n + 1 => by
    rw [List.range_succ, List.map_append, List.sum_append, sumT_range a n]
    simp [sumT]
theorem bi_sumT {a : Nat → Int} {n : Nat} : biD .sum [.lst (tabI a n)] = some (false, .int (sumT a n)) := by
  rw [tabI_map, bi_sum, sumT_range]
/-- the part of the sum whose places are in the mask -/
def near (a : Nat → Int) (m : Nat) (n : Nat) : Int := sumT (fun j => if m.testBit j then a j else 0) n
theorem near_filter (a : Nat → Int) (m : Nat) : ∀ n, (((List.range n).filter fun j => m.testBit j).map a).sum = near a m n
  | 0 => rfl
  | n + 1 => by
    rw [List.range_succ, List.filter_append, List.map_append, List.sum_append, near_filter a m n]
    unfold near
    show _ = sumT _ n + _
    by_cases h : m.testBit n = true
    · simp [h]
    · simp [h]
theorem sumT_congr {a b : Nat → Int} : ∀ {n : Nat}, (∀ j, j < n → a j = b j) → sumT a n = sumT b n
  | 0, _ => rfl
  | n + 1, h => by
    show sumT a n + a n = sumT b n + b n
    rw [sumT_congr fun j hj => h j (by omega), h n (by omega)]
theorem sumT_le {a b : Nat → Int} : ∀ {n : Nat}, (∀ j, j < n → a j ≤ b j) → sumT a n ≤ sumT b n
  | 0, _ => Int.le_refl _
  | n + 1, h => Int.add_le_add (sumT_le fun j hj => h j (by omega)) (h n (by omega))
theorem sumT_add (a b : Nat → Int) : ∀ n : Nat, sumT (fun j => a j + b j) n = sumT a n + sumT b n
  | 0 => rfl
  | n + 1 => by
    show sumT _ n + (a n + b n) = (sumT a n + a n) + (sumT b n + b n)
    rw [sumT_add a b n]
    omega
theorem sumT_const (c : Int) : ∀ n : Nat, sumT (fun _ => c) n = c * n
  | 0 => by simp [sumT]
  | n + 1 => by
    show sumT _ n + c = _
    rw [sumT_const c n, Int.natCast_add, Int.mul_add]; simp
theorem near_rest {a : Nat → Int} {m m2 n : Nat} (h : ∀ j, j < n → m2.testBit j = !m.testBit j) : near a m n + near a m2 n = sumT a n := by
  unfold near
  rw [← sumT_add]
  refine sumT_congr fun j hj => ?_
  rw [h j hj]
  cases m.testBit j <;> simp
theorem near_mono {a : Nat → Int} {m m2 n : Nat} (ha : ∀ j, j < n → 0 ≤ a j) (h : ∀ j, m.testBit j = true → m2.testBit j = true) : near a m n ≤ near a m2 n := by
  refine sumT_le fun j hj => ?_
  by_cases e : m.testBit j = true
  · rw [if_pos e, if_pos (h j e)]; exact Int.le_refl _
  · rw [if_neg e]
    have := ha j hj
    split <;> omega
theorem near_zero {a : Nat → Int} {n : Nat} : near a 0 n = 0 := by
  unfold near
  rw [sumT_congr (b := fun _ => 0) fun j _ => by simp, sumT_const]; simp
theorem near_nonneg {a : Nat → Int} {m n : Nat} (ha : ∀ j, j < n → 0 ≤ a j) : 0 ≤ near a m n := by
  have := near_mono (a := a) (m := 0) (m2 := m) (n := n) ha (by simp)
  rw [near_zero] at this
  exact this
theorem sz0  : decide (([] : List D).length ≤ sizeLine) = true := decide_eq_true (Nat.le_of_lt (sz_small (n := 0) (by decide)))
theorem sz1 {x0 : D} : decide (([x0] : List D).length ≤ sizeLine) = true := decide_eq_true (Nat.le_of_lt (sz_small (n := 1) (by decide)))
theorem sz2 {x0 x1 : D} : decide (([x0, x1] : List D).length ≤ sizeLine) = true := decide_eq_true (Nat.le_of_lt (sz_small (n := 2) (by decide)))
theorem sz3 {x0 x1 x2 : D} : decide (([x0, x1, x2] : List D).length ≤ sizeLine) = true := decide_eq_true (Nat.le_of_lt (sz_small (n := 3) (by decide)))
theorem sz4 {x0 x1 x2 x3 : D} : decide (([x0, x1, x2, x3] : List D).length ≤ sizeLine) = true := decide_eq_true (Nat.le_of_lt (sz_small (n := 4) (by decide)))
theorem sz5 {x0 x1 x2 x3 x4 : D} : decide (([x0, x1, x2, x3, x4] : List D).length ≤ sizeLine) = true := decide_eq_true (Nat.le_of_lt (sz_small (n := 5) (by decide)))
theorem sz6 {x0 x1 x2 x3 x4 x5 : D} : decide (([x0, x1, x2, x3, x4, x5] : List D).length ≤ sizeLine) = true := decide_eq_true (Nat.le_of_lt (sz_small (n := 6) (by decide)))
theorem sz7 {x0 x1 x2 x3 x4 x5 x6 : D} : decide (([x0, x1, x2, x3, x4, x5, x6] : List D).length ≤ sizeLine) = true := decide_eq_true (Nat.le_of_lt (sz_small (n := 7) (by decide)))
theorem sz8 {x0 x1 x2 x3 x4 x5 x6 x7 : D} : decide (([x0, x1, x2, x3, x4, x5, x6, x7] : List D).length ≤ sizeLine) = true := decide_eq_true (Nat.le_of_lt (sz_small (n := 8) (by decide)))
theorem sz9 {x0 x1 x2 x3 x4 x5 x6 x7 x8 : D} : decide (([x0, x1, x2, x3, x4, x5, x6, x7, x8] : List D).length ≤ sizeLine) = true := decide_eq_true (Nat.le_of_lt (sz_small (n := 9) (by decide)))
theorem sz10 {x0 x1 x2 x3 x4 x5 x6 x7 x8 x9 : D} : decide (([x0, x1, x2, x3, x4, x5, x6, x7, x8, x9] : List D).length ≤ sizeLine) = true := decide_eq_true (Nat.le_of_lt (sz_small (n := 10) (by decide)))
theorem sz11 {x0 x1 x2 x3 x4 x5 x6 x7 x8 x9 x10 : D} : decide (([x0, x1, x2, x3, x4, x5, x6, x7, x8, x9, x10] : List D).length ≤ sizeLine) = true := decide_eq_true (Nat.le_of_lt (sz_small (n := 11) (by decide)))
theorem sz12 {x0 x1 x2 x3 x4 x5 x6 x7 x8 x9 x10 x11 : D} : decide (([x0, x1, x2, x3, x4, x5, x6, x7, x8, x9, x10, x11] : List D).length ≤ sizeLine) = true := decide_eq_true (Nat.le_of_lt (sz_small (n := 12) (by decide)))
theorem sz13 {x0 x1 x2 x3 x4 x5 x6 x7 x8 x9 x10 x11 x12 : D} : decide (([x0, x1, x2, x3, x4, x5, x6, x7, x8, x9, x10, x11, x12] : List D).length ≤ sizeLine) = true := decide_eq_true (Nat.le_of_lt (sz_small (n := 13) (by decide)))
theorem sz14 {x0 x1 x2 x3 x4 x5 x6 x7 x8 x9 x10 x11 x12 x13 : D} : decide (([x0, x1, x2, x3, x4, x5, x6, x7, x8, x9, x10, x11, x12, x13] : List D).length ≤ sizeLine) = true := decide_eq_true (Nat.le_of_lt (sz_small (n := 14) (by decide)))
theorem szT {g : Nat → D} {n : Nat} (h : n ≤ 1000) : decide ((tab g n).length < sizeLine) = true := by rw [tab_len]; exact decide_eq_true (sz_small h)
theorem tab_snoc {g : Nat → D} {n : Nat} {d : D} (h : g n = d) : tab g n ++ [d] = tab g (n + 1) := by rw [tab_succ, h]
theorem tab_nil {g : Nat → D} : tab g 0 = [] := rfl
theorem bi_sumF {a : Nat → Int} {p : Nat → Bool} {n : Nat} : biD .sum [.lst (((List.range n).filter p).map fun j => D.int (a j))] = some (false, .int (((List.range n).filter p).map a).sum) := by
  rw [← bi_sum, List.map_map]; rfl
theorem sub2_tab0 {g : Nat → D} {n : Nat} (h : 0 < n) : sub2 (.lst (tab g n)) (.int 0) = some (false, g 0) := sub2_tab (k := 0) h
theorem ixN_tab0 {g : Nat → D} {n : Nat} (h : 0 < n) : ixN (tab g n).length 0 = some 0 := ixN_tab (k := 0) h
theorem sumT_up0 {a : Nat → Int} : ∀ {n : Nat}, 0 < n → sumT (fun j => if j = 0 then a 0 + 1 else a j) n = sumT a n + 1
  | 1, _ => by simp [sumT]
  | n + 2, _ => by
    show sumT _ (n + 1) + (if n + 1 = 0 then a 0 + 1 else a (n + 1)) = sumT a (n + 1) + a (n + 1) + 1
    rw [sumT_up0 (by omega), if_neg (by omega)]; omega
theorem tru_bit (m j : Nat) : truD (.int ((m &&& 2 ^ j : Nat) : Int)) = some (m.testBit j) := by
  show some ((((m &&& 2 ^ j : Nat) : Int)) != 0) = _
  congr 1
  by_cases h : m &&& 2 ^ j = 0
  · rw [h, (bit_test m j).mp h]; rfl
  · have h2 : m.testBit j = true := by
      cases e : m.testBit j with
      | true => rfl
      | false => exact absurd ((bit_test m j).mpr e) h
    rw [h2]
    simpa using h
theorem p6 : binD .Pow (.int 10) (.int 6) = some (false, .int (10 ^ 6)) := id rfl
theorem p9 : binD .Pow (.int 10) (.int 9) = some (false, .int (10 ^ 9)) := id rfl
theorem sumT_bound {a : Nat → Int} {h : Nat} {B : Int} (hh : 0 < h) (ha : ∀ j, j < h → a j * h ≤ B) : sumT a h ≤ B := by
  have : sumT a h * h ≤ B * h := by
    have e : ∀ n, n ≤ h → sumT a n * h ≤ B * n := fun n => by
      induction n with
      | zero => intro _; simp [sumT]
      | succ n ih =>
        intro hn
        show (sumT a n + a n) * h ≤ _
        have := ih (by omega)
        have := ha n (by omega)
        rw [Int.add_mul, Int.natCast_add, Int.mul_add]
        simp only [Int.natCast_one, Int.mul_one]
        omega
    exact e h (Nat.le_refl _)
  exact Int.le_of_mul_le_mul_right this (by omega)
theorem tabI_push {a : Nat → Int} {k : Nat} {x : Int} : tabI a k ++ [D.int x] = tabI (fun j => if j = k then x else a j) (k + 1) := by
  rw [show tabI (fun j => if j = k then x else a j) (k + 1) = tabI (fun j => if j = k then x else a j) k ++ [D.int (if k = k then x else a k)] from tab_succ, if_pos rfl]
  congr 1
  refine tab_congr fun j hj => ?_
  show D.int (a j) = D.int (if j = k then x else a j)
  rw [if_neg (by omega)]
theorem bit_ne {m j : Nat} : (((m &&& 2 ^ j : Nat) : Int) != 0) = m.testBit j := Option.some.inj (tru_bit m j)
theorem bShr {m j : Nat} : binD .RShift (.int (m : Int)) (.int (j : Int)) = some (false, .int ((m / 2 ^ j : Nat) : Int)) := by
  unfold binD
  dsimp only
  rw [if_pos (decide_eq_true (Int.natCast_nonneg j)), Int.toNat_natCast]
  simp
theorem bAnd1 {a : Nat} : binD .BitAnd (.int (a : Int)) (.int 1) = some (false, .int ((a % 2 : Nat) : Int)) := by
  have := bAnd (a := a) (b := 1)
  rw [Nat.and_one_is_mod] at this
  exact this
theorem bit_dec {m j : Nat} : decide (((m / 2 ^ j % 2 : Nat) : Int) = 1) = m.testBit j := by
  rw [Nat.testBit_eq_decide_div_mod_eq]
  congr 1
  exact propext ⟨fun h => by omega, fun h => by omega⟩
theorem bi_tuple {ds : List D} : biD .tuple [.lst ds] = some (false, .tup ds) := id rfl
theorem bRep {x : D} {n : Nat} (h : n ≤ 1000) : binD .Mult (.lst [x]) (.int (n : Int)) = some (true, .lst (tab (fun _ => x) n)) := by
  unfold binD
  dsimp only
  have hz : n ≤ sizeLine := Nat.le_of_lt (sz_small h)
  rw [if_pos (decide_eq_true (by rw [Int.toNat_natCast]; simp only [List.length_cons, List.length_nil]; refine ⟨by omega, by omega, by omega⟩)), Int.toNat_natCast]
  congr 3
  unfold tab
  clear hz h
  induction n with
  | zero => rfl
  | succ n ih => rw [List.replicate_succ, List.flatten_cons, ih, List.range_succ_eq_map, List.map_cons, List.map_map]; rfl
/-- a loop over a table -/
theorem forTab {bd : D → Env → Option Env} {body : Env → SOut} (Inv : Nat → Env → Prop) {g : Nat → D} {n : Nat} {ρ : Env} (h : Inv 0 ρ)
    (st : ∀ i ρ, i < n → Inv i ρ → ∃ ρ1 ρ2, bd (g i) ρ = some ρ1 ∧ body ρ1 = .nx ρ2 ∧ Inv (i + 1) ρ2) : ∃ ρ', forLoop bd body (tab g n) ρ = .nx ρ' ∧ Inv n ρ' := by
  have := forL (bd := bd) (body := body) Inv (tab g n) 0 ρ (fun i x ρ hx hi => by
    have hl : i < n := by
      have := (List.getElem?_eq_some_iff.mp hx).1
      rw [tab_len] at this; exact this
    rw [tab_get hl] at hx; cases hx
    rw [Nat.zero_add] at hi ⊢
    exact st i ρ hl hi) h
  rw [tab_len, Nat.zero_add] at this
  exact this
theorem put0 {f : Nat} {d : D} : putD f d [] = [(f, d)] := id rfl
/-! ### == of lists of ints -/
theorem toPys_ints : ∀ l : List Int, toPys (l.map .int) = some (l.map PyData.int)
  | [] => rfl
  | i :: l => by
    show (toPy (.int i)).bind (fun x => (toPys (l.map .int)).map fun r => x :: r) = _
    rw [toPys_ints l]; rfl
theorem eqvAll_ints : ∀ l m : List Int, PyData.eqvAll (l.map PyData.int) (m.map PyData.int) = decide (l = m)
  | [], [] => by simp [PyData.eqvAll]
  | [], _ :: _ => by simp [PyData.eqvAll]
  | _ :: _, [] => by simp [PyData.eqvAll]
  | a :: l, b :: m => by
    rw [List.map_cons, List.map_cons, PyData.eqvAll, eqvAll_ints l m, PyData.eqv]
    by_cases h : a = b <;> simp [h]
theorem lay_ints : ∀ l : List Int, PyData.canLayAll0 (l.map PyData.int) = true
  | [] => rfl
  | i :: l => by rw [List.map_cons, PyData.canLayAll0, lay_ints l]; rfl
theorem depth_ints : ∀ l : List Int, PyData.depthAll (l.map PyData.int) = 0
  | [] => rfl
  | i :: l => by rw [List.map_cons, PyData.depthAll, depth_ints l]; rfl
theorem shaped_ints (l : List Int) : SeqAt.shaped (.list (l.map PyData.int)) = true := by
  unfold SeqAt.shaped
  rw [PyData.canLay0, lay_ints, PyData.depth, depth_ints]; rfl
theorem cEqL {l m : List Int} : cmpD .Eq (.lst (l.map .int)) (.lst (m.map .int)) = some (decide (l = m)) := by
  show eqD _ _ = _
  have h : ∀ l : List Int, toPy (.lst (l.map .int)) = some (.list (l.map PyData.int)) := fun l => by
    show (toPys _).map _ = _
    rw [toPys_ints]; rfl
  unfold eqD
  rw [h l, h m]
  show (if (SeqAt.shaped (.list (l.map PyData.int)) && SeqAt.shaped (.list (m.map PyData.int))) = true then some (PyData.eqv (.list (l.map PyData.int)) (.list (m.map PyData.int))) else none) = _
  rw [shaped_ints, shaped_ints, if_pos (by rfl), PyData.eqv, eqvAll_ints]
theorem cEqT {f g : Nat → Int} {n : Nat} : cmpD .Eq (.lst (tabI f n)) (.lst (tabI g n)) = some (decide (∀ i, i < n → f i = g i)) := by
  rw [tabI_map, tabI_map, cEqL]
  congr 1
  refine decide_eq_decide.mpr ⟨fun h i hi => ?_, fun h => List.map_congr_left fun i hi => h i (List.mem_range.mp hi)⟩
  have := congrArg (fun l => l[i]?) h
  simpa [hi] using this
/-! ### any -/
theorem blsD_map (l : List Nat) (q : Nat → Bool) : blsD (l.map fun k => D.bl (q k)) = some (l.map q) := by
  induction l with
  | nil => rfl
  | cons a l ih =>
    show (blsD (l.map fun k => D.bl (q k))).map _ = _
    rw [ih]; rfl
theorem bi_anyB {l : List Nat} {q : Nat → Bool} : biD .any [.lst (l.map fun k => D.bl (q k))] = some (false, .bl (l.any q)) := by
  show (match blsD (l.map fun k => D.bl (q k)) with | some is => some (false, D.bl (List.any is id)) | none => _) = _
  rw [blsD_map]
  simp [List.any_map]
theorem bi_allB {l : List Nat} {q : Nat → Bool} : biD .all [.lst (l.map fun k => D.bl (q k))] = some (false, .bl (l.all q)) := by
  show (blsD (l.map fun k => D.bl (q k))).map _ = _
  rw [blsD_map]
  simp [List.all_map]
theorem intsD_mapN (l : List Nat) (q : Nat → Int) : intsD (l.map fun k => D.int (q k)) = some (l.map q) := by
  have := intsD_map (l.map q)
  rw [List.map_map] at this
  exact this
theorem bi_anyI {l : List Nat} {q : Nat → Int} : biD .any [.lst (l.map fun k => D.int (q k))] = some (false, .bl (l.any fun k => q k != 0)) := by
  cases l with
  | nil => rfl
  | cons a l =>
    show (match blsD ((a :: l).map fun k => D.int (q k)) with | some is => some (false, D.bl (List.any is id)) | none => (intsD ((a :: l).map fun k => D.int (q k))).map fun is => (false, D.bl (List.any is fun n => n != 0))) = _
    rw [show blsD ((a :: l).map fun k => D.int (q k)) = none from rfl, intsD_mapN]
    simp [List.any_map, Function.comp_def]
/-- a comprehension over a list that stands for numbers -/
theorem cmpU {T : Tab} {cl : Cl} {e : Ex} {i : Nat} {s : Slot} {ρ : Env} {l : List Nat} (u f : Nat → D) (h : ρ[i]? = some s) (hs : FreeS s) (hz : l.length ≤ 1000) (inj : ∀ a b, u a = u b → f a = f b)
    (step : ∀ k, k ∈ l → evalE T cl e (ρ.set i (.val (u k))) = .ok (.val (f k)) (ρ.set i (.val (u k)))) :
    cmpB T cl e (.name i) (.bl true) (l.map u) ρ = .ok (.own (.lst (l.map f))) ρ := by
  classical
  let F : D → D := fun d => if h : ∃ k, k ∈ l ∧ u k = d then f h.choose else d
  have hF : ∀ k, k ∈ l → F (u k) = f k := fun k hk => by
    have ex : ∃ j, j ∈ l ∧ u j = u k := ⟨k, hk, rfl⟩
    show (if h : ∃ j, j ∈ l ∧ u j = u k then f h.choose else u k) = f k
    rw [dif_pos ex]
    exact inj _ _ ex.choose_spec.2
  rw [cmp1 (c := fun _ => true) (f := F) h hs (by rw [List.length_map]; exact Nat.le_of_lt (sz_small hz)) (fun x hx => ?_)]
  · rw [show (l.map u).filter (fun _ => true) = l.map u from List.filter_eq_self.mpr (by simp), List.map_map]
    congr 3
    exact List.map_congr_left fun k hk => hF k hk
  · obtain ⟨k, hk, rfl⟩ := List.mem_map.mp hx
    refine ⟨by rw [t_bl], fun _ => ?_⟩
    rw [hF k hk]
    exact step k hk
end Wf

namespace Wf.L10
open PySem PySem.Spec PyProof.Rows L2 Wf
def flds : List Str := ["append", "hands", "_numbers", "MOST", "top", "bottom"]
def fnN : Nat → Option Str
  | 2 => some "_law_digit"
  | 3 => some "_law_by_amounts"
  | 4 => some "_law_due_halves"
  | 5 => some "additive"
  | 6 => some "_law_same"
  | 7 => some "_law_push"
  | 8 => some "_law_pushed"
  | 9 => some "_law_halves"
  | 10 => some "_law_adds_up"
  | 11 => some "idle_hands"
  | 12 => some "_law_idle"
  | 13 => some "check_hands"
  | 14 => some "check_length"
  | 15 => some "check_opposite"
  | 16 => some "check_rising"
  | 17 => some "check_number"
  | 18 => some "_law_amounts"
  | 19 => some "_law_fits"
  | 20 => some "amounts_of"
  | 22 => some "rest_mask"
  | 23 => some "with_hand"
  | 24 => some "has_hand"
  | _ => none
def clsN : Nat → Option Str
  | 0 => some "Scale"
  | 1 => some "Ratio"
  | _ => none
def newN : Nat → Option Str
  | 0 => some "Scale"
  | 1 => some "Ratio"
  | _ => none
def conN : Nat → Option Str
  | 0 => some "MOST_HANDS"
  | 1 => some "MOST_PART"
  | _ => none
def biO : Bi → Bool
  | .all => true
  | .any => true
  | .gcd => true
  | .int => true
  | .len => true
  | .list => true
  | .min => true
  | .sum => true
  | .tuple => true
  | _ => false
def M : Nam := ⟨fnN, clsN, newN, conN, biO⟩
/-- law 0: _law_script:v -/
def n_law : List Str := ["_law_script", "_law_cells", "_law_box", "_law_hands", "_law_mode", "_law_numbers", "_law_scale", "_law_due", "_law_told", "_law_mask", "_law_number", "_law_x"]
def c_law : Stms := .cons (.set 1 (.comp (.bi .int (.cons (.var 11) (.nil))) (.name 11) (.of (.slc (.var 0) (.non) (.int 63))) (.bl true))) (.cons (.hold 2 (.lst (.cons (.int 0) (.cons (.int 0) (.nil))))) (.cons (.set 3 (.sub (.lst (.cons (.int 3) (.cons (.int 2) (.cons (.int 4) (.cons (.int 1) (.cons (.int 5) (.cons (.int 3) (.cons (.int 2) (.cons (.int 4) (.cons (.int 3) (.cons (.int 2) (.cons (.int 6) (.cons (.int 7) (.nil)))))))))))))) (.call 2 (.cons (.var 1) (.cons (.var 2) (.cons (.int 12) (.nil))))))) (.cons (.set 4 (.call 2 (.cons (.var 1) (.cons (.var 2) (.cons (.int 3) (.nil)))))) (.cons (.hold 5 (.call 3 (.cons (.var 1) (.cons (.var 2) (.cons (.var 3) (.nil)))))) (.cons (.ite (.cmp .Eq (.var 4) (.int 1)) (.cons (.set 9 (.bin .Add (.int 1) (.call 2 (.cons (.var 1) (.cons (.var 2) (.cons (.bin .Sub (.bin .LShift (.int 1) (.var 3)) (.int 1)) (.nil))))))) (.cons (.set 10 (.bin .Add (.bin .Add (.sub (.var 5) (.var 9)) (.int 1)) (.call 2 (.cons (.var 1) (.cons (.var 2) (.cons (.int 3) (.nil))))))) (.cons (.expr (.call 7 (.cons (.var 5) (.cons (.var 9) (.cons (.bi .min (.cons (.bin .Pow (.int 10) (.int 9)) (.cons (.var 10) (.nil)))) (.nil)))))) (.nil)))) (.nil)) (.cons (.ite (.cmp .Eq (.var 4) (.int 2)) (.cons (.hold 5 (.call 8 (.cons (.var 1) (.cons (.var 2) (.cons (.var 3) (.cons (.int 2) (.nil))))))) (.nil)) (.nil)) (.cons (.set 6 (.new 0 (.cons (.var 3) (.cons (.bi .list (.cons (.var 5) (.nil))) (.nil))))) (.cons (.set 7 (.call 4 (.cons (.var 3) (.cons (.var 5) (.nil))))) (.cons (.hold 8 (.call 5 (.cons (.var 6) (.nil)))) (.cons (.ite (.nt (.call 6 (.cons (.call 9 (.cons (.var 8) (.nil))) (.cons (.var 7) (.nil))))) (.cons (.ret (.bl false)) (.nil)) (.nil)) (.cons (.ite (.cmp .IsNot (.var 7) (.non)) (.cons (.ite (.nt (.call 10 (.cons (.var 3) (.cons (.var 5) (.cons (.var 7) (.nil)))))) (.cons (.ret (.bl false)) (.nil)) (.nil)) (.cons (.expr (.app 8 (.int 5))) (.cons (.setsub 8 (.int 0) (.int 7)) (.cons (.ite (.nt (.call 6 (.cons (.call 9 (.cons (.call 5 (.cons (.var 6) (.nil))) (.nil))) (.cons (.var 7) (.nil))))) (.cons (.ret (.bl false)) (.nil)) (.nil)) (.nil))))) (.nil)) (.cons (.ite (.nt (.call 6 (.cons (.call 11 (.cons (.var 6) (.nil))) (.cons (.call 12 (.cons (.var 3) (.cons (.var 5) (.nil)))) (.nil))))) (.cons (.ret (.bl false)) (.nil)) (.nil)) (.cons (.ite (.nt (.call 6 (.cons (.call 11 (.cons (.var 6) (.nil))) (.cons (.call 12 (.cons (.var 3) (.cons (.var 5) (.nil)))) (.nil))))) (.cons (.ret (.bl false)) (.nil)) (.nil)) (.cons (.ite (.or (.nt (.isi (.var 6) (.cls 0))) (.nt (.call 6 (.cons (.att (.var 6) 1) (.cons (.var 3) (.nil)))))) (.cons (.ret (.bl false)) (.nil)) (.nil)) (.cons (.ret (.call 6 (.cons (.lso (.var 6)) (.cons (.var 5) (.nil))))) (.nil))))))))))))))))
def fd_law : Fd := ⟨[.v], [], 12, c_law, 0⟩
/-- Scale.__init__ 1: self:m hands:v numbers:v -/
def n_Scale___init : List Str := ["self", "hands", "numbers", "number"]
def c_Scale___init : Stms := .cons (.expr (.call 13 (.cons (.var 1) (.cons (.glo 0) (.nil))))) (.cons (.expr (.call 14 (.cons (.bi .len (.cons (.var 2) (.nil))) (.cons (.bin .LShift (.int 1) (.var 1)) (.cons (.bin .LShift (.int 1) (.var 1)) (.nil)))))) (.cons (.for_ (.name 3) (.of (.var 2)) (.cons (.expr (.call 17 (.cons (.var 3) (.cons (.neg (.ccon 0 3)) (.cons (.ccon 0 3) (.nil)))))) (.nil))) (.cons (.expr (.call 15 (.cons (.var 1) (.cons (.var 2) (.nil))))) (.cons (.expr (.call 16 (.cons (.var 1) (.cons (.var 2) (.nil))))) (.cons (.setatt 0 1 (.var 1)) (.cons (.setatt 0 2 (.bi .tuple (.cons (.var 2) (.nil)))) (.nil)))))))
def fd_Scale___init : Fd := ⟨[.m, .v, .v], [], 4, c_Scale___init, 0⟩
/-- _law_digit 2: _law_cells:v _law_box:m _law_m:v -/
def n_law_digit : List Str := ["_law_cells", "_law_box", "_law_m", "_law_digit_here", "_law_cell"]
def c_law_digit : Stms := .cons (.ite (.and (.cmp .Eq (.sub (.var 1) (.int 1)) (.int 0)) (.cmp .Lt (.sub (.var 1) (.int 0)) (.bi .len (.cons (.var 0) (.nil))))) (.cons (.set 4 (.sub (.var 0) (.sub (.var 1) (.int 0)))) (.cons (.setsub 1 (.int 0) (.bin .Add (.sub (.var 1) (.int 0)) (.int 1))) (.cons (.setsub 1 (.int 1) (.bin .Mult (.int 2) (.var 4))) (.cons (.ite (.cmp .Lt (.var 4) (.int 0)) (.cons (.setsub 1 (.int 1) (.bin .Sub (.bin .Mult (.neg (.int 2)) (.var 4)) (.int 1))) (.nil)) (.nil)) (.nil))))) (.nil)) (.cons (.set 3 (.bin .Mod (.bi .int (.cons (.sub (.var 1) (.int 1)) (.nil))) (.var 2))) (.cons (.setsub 1 (.int 1) (.bin .FloorDiv (.sub (.var 1) (.int 1)) (.var 2))) (.cons (.ret (.var 3)) (.nil))))
def fd_law_digit : Fd := ⟨[.v, .m, .v], [], 5, c_law_digit, 0⟩
/-- _law_by_amounts 3: _law_cells:v _law_box:m _law_hands:v -/
def n_law_by_amounts : List Str := ["_law_cells", "_law_box", "_law_hands", "_law_amounts_here", "_law_k", "_law_numbers", "_law_mask", "_law_pick", "_law_menu", "_law_near", "_law_h"]
def c_law_by_amounts : Stms := .cons (.hold 3 (.lst (.nil))) (.cons (.for_ (.name 4) (.range1 (.var 2)) (.cons (.set 7 (.bin .Mod (.bi .int (.cons (.bin .Add (.call 2 (.cons (.var 0) (.cons (.var 1) (.cons (.int 8) (.nil))))) (.var 4)) (.nil))) (.int 8))) (.cons (.set 8 (.lst (.cons (.int 1) (.cons (.int 2) (.cons (.int 0) (.cons (.int 3) (.cons (.int 5) (.cons (.int 7) (.cons (.bin .Pow (.int 10) (.int 6)) (.cons (.bin .FloorDiv (.bin .Mult (.int 2) (.bin .Pow (.int 10) (.int 9))) (.var 2)) (.nil))))))))))) (.cons (.expr (.app 3 (.sub (.var 8) (.var 7)))) (.nil))))) (.cons (.ite (.cmp .Eq (.bin .Mod (.bi .int (.cons (.bi .sum (.cons (.var 3) (.nil))) (.nil))) (.int 2)) (.int 1)) (.cons (.setsub 3 (.int 0) (.bin .Add (.sub (.var 3) (.int 0)) (.int 1))) (.nil)) (.nil)) (.cons (.hold 5 (.lst (.nil))) (.cons (.for_ (.name 6) (.range1 (.bin .LShift (.int 1) (.var 2))) (.cons (.set 9 (.bi .sum (.cons (.comp (.sub (.var 3) (.var 10)) (.name 10) (.range1 (.var 2)) (.bin .BitAnd (.var 6) (.bin .LShift (.int 1) (.var 10)))) (.nil)))) (.cons (.expr (.app 5 (.bin .Sub (.var 9) (.bin .FloorDiv (.bi .sum (.cons (.var 3) (.nil))) (.int 2))))) (.nil)))) (.cons (.ret (.var 5)) (.nil))))))
def fd_law_by_amounts : Fd := ⟨[.v, .m, .v], [], 11, c_law_by_amounts, 0⟩
/-- _law_due_halves 4: _law_hands:v _law_numbers:r -/
def n_law_due_halves : List Str := ["_law_hands", "_law_numbers", "_law_amounts_here", "_law_halves_here", "_law_amount"]
def c_law_due_halves : Stms := .cons (.set 2 (.call 18 (.cons (.var 0) (.cons (.var 1) (.nil))))) (.cons (.ite (.nt (.call 19 (.cons (.var 0) (.cons (.var 1) (.cons (.var 2) (.nil)))))) (.cons (.ret (.non)) (.nil)) (.nil)) (.cons (.hold 3 (.lst (.nil))) (.cons (.for_ (.name 4) (.of (.var 2)) (.cons (.ite (.cmp .Eq (.bin .Mod (.bi .int (.cons (.var 4) (.nil))) (.int 2)) (.int 0)) (.cons (.expr (.app 3 (.tup (.cons (.bin .FloorDiv (.var 4) (.int 2)) (.cons (.int 1) (.nil)))))) (.nil)) (.cons (.expr (.app 3 (.tup (.cons (.var 4) (.cons (.int 2) (.nil)))))) (.nil))) (.nil))) (.cons (.ret (.var 3)) (.nil)))))
def fd_law_due_halves : Fd := ⟨[.v, .r], [], 5, c_law_due_halves, 0⟩
/-- additive 5: scale:v -/
def n_additive : List Str := ["scale", "parts", "hand", "amounts", "amount"]
def c_additive : Stms := .cons (.hold 1 (.lst (.nil))) (.cons (.for_ (.name 2) (.range1 (.att (.var 0) 1)) (.cons (.set 3 (.call 20 (.cons (.var 0) (.cons (.var 2) (.nil))))) (.cons (.ite (.bi .any (.cons (.comp (.cmp .NotEq (.var 4) (.sub (.var 3) (.int 0))) (.name 4) (.of (.var 3)) (.bl true)) (.nil))) (.cons (.ret (.non)) (.nil)) (.nil)) (.cons (.expr (.app 1 (.new 1 (.cons (.sub (.var 3) (.int 0)) (.cons (.int 2) (.nil)))))) (.nil))))) (.cons (.ret (.var 1)) (.nil)))
def fd_additive : Fd := ⟨[.v], [], 5, c_additive, 0⟩
/-- _law_same 6: _law_told:v _law_due:r -/
def n_law_same : List Str := ["_law_told", "_law_due", "_law_k"]
def c_law_same : Stms := .cons (.ite (.cmp .Is (.var 1) (.non)) (.cons (.ret (.cmp .Is (.var 0) (.non))) (.nil)) (.nil)) (.cons (.ite (.isi (.var 1) (.bl)) (.cons (.ret (.and (.isi (.var 0) (.bl)) (.cmp .Eq (.var 0) (.var 1)))) (.nil)) (.nil)) (.cons (.ite (.isi (.var 1) (.int)) (.cons (.ret (.and (.isi (.var 0) (.int)) (.and (.nt (.isi (.var 0) (.bl))) (.cmp .Eq (.var 0) (.var 1))))) (.nil)) (.nil)) (.cons (.ite (.isi (.var 1) (.str)) (.cons (.ret (.and (.isi (.var 0) (.str)) (.cmp .Eq (.var 0) (.var 1)))) (.nil)) (.nil)) (.cons (.ite (.cmp .NotEq (.isi (.var 0) (.lst)) (.isi (.var 1) (.lst))) (.cons (.ret (.bl false)) (.nil)) (.nil)) (.cons (.ite (.or (.cmp .NotEq (.isi (.var 0) (.tup)) (.isi (.var 1) (.tup))) (.cmp .NotEq (.bi .len (.cons (.var 0) (.nil))) (.bi .len (.cons (.var 1) (.nil))))) (.cons (.ret (.bl false)) (.nil)) (.nil)) (.cons (.ret (.bi .all (.cons (.comp (.call 6 (.cons (.sub (.var 0) (.var 2)) (.cons (.sub (.var 1) (.var 2)) (.nil)))) (.name 2) (.range1 (.bi .len (.cons (.var 1) (.nil)))) (.bl true)) (.nil)))) (.nil)))))))
def fd_law_same : Fd := ⟨[.v, .r], [], 3, c_law_same, 0⟩
/-- _law_push 7: _law_numbers:m _law_mask:v _law_number:v -/
def n_law_push : List Str := ["_law_numbers", "_law_mask", "_law_number", "_law_full", "_law_code"]
def c_law_push : Stms := .cons (.set 3 (.bin .Sub (.bi .len (.cons (.var 0) (.nil))) (.int 1))) (.cons (.for_ (.name 4) (.range1 (.bin .Add (.var 3) (.int 1))) (.cons (.ite (.and (.cmp .Eq (.bin .BitAnd (.var 4) (.var 1)) (.var 1)) (.cmp .Lt (.sub (.var 0) (.var 4)) (.var 2))) (.cons (.setsub 0 (.var 4) (.var 2)) (.cons (.setsub 0 (.bin .Sub (.var 3) (.var 4)) (.neg (.var 2))) (.nil))) (.nil)) (.nil))) (.nil))
def fd_law_push : Fd := ⟨[.m, .v, .v], [], 5, c_law_push, 0⟩
/-- _law_pushed 8: _law_cells:v _law_box:m _law_hands:v _law_start:v -/
def n_law_pushed : List Str := ["_law_cells", "_law_box", "_law_hands", "_law_start", "_law_full", "_law_numbers", "_law_k", "_law_mask", "_law_amount"]
def c_law_pushed : Stms := .cons (.set 4 (.bin .Sub (.bin .LShift (.int 1) (.var 2)) (.int 1))) (.cons (.hold 5 (.bin .Mult (.lst (.cons (.int 0) (.nil))) (.bin .Add (.var 4) (.int 1)))) (.cons (.for_ (.name 6) (.range1 (.sub (.lst (.cons (.int 2) (.cons (.int 0) (.cons (.int 1) (.cons (.int 3) (.cons (.int 4) (.cons (.int 5) (.cons (.int 6) (.nil))))))))) (.call 2 (.cons (.var 0) (.cons (.var 1) (.cons (.int 7) (.nil))))))) (.cons (.set 7 (.bin .Add (.int 1) (.bin .Mod (.bi .int (.cons (.bin .Add (.bin .Add (.call 2 (.cons (.var 0) (.cons (.var 1) (.cons (.var 4) (.nil))))) (.bin .Mult (.int 2) (.var 6))) (.var 3)) (.nil))) (.var 4)))) (.cons (.set 8 (.sub (.lst (.cons (.int 1) (.cons (.int 2) (.cons (.int 3) (.cons (.int 1) (.cons (.int 2) (.cons (.int 3) (.cons (.int 7) (.cons (.bin .Pow (.int 10) (.int 6)) (.nil)))))))))) (.call 2 (.cons (.var 0) (.cons (.var 1) (.cons (.int 8) (.nil))))))) (.cons (.expr (.call 7 (.cons (.var 5) (.cons (.var 7) (.cons (.bin .Add (.sub (.var 5) (.var 7)) (.var 8)) (.nil)))))) (.nil))))) (.cons (.ret (.var 5)) (.nil))))
def fd_law_pushed : Fd := ⟨[.v, .m, .v, .v], [], 9, c_law_pushed, 0⟩
/-- _law_halves 9: _law_told:r -/
def n_law_halves : List Str := ["_law_told", "_law_halves_here", "_law_part"]
def c_law_halves : Stms := .cons (.ite (.nt (.isi (.var 0) (.lst))) (.cons (.ret (.var 0)) (.nil)) (.nil)) (.cons (.hold 1 (.lst (.nil))) (.cons (.for_ (.name 2) (.of (.var 0)) (.cons (.ite (.nt (.isi (.var 2) (.cls 1))) (.cons (.ret (.tup (.cons (.str ("no ratio" : Str)) (.nil)))) (.nil)) (.nil)) (.cons (.expr (.app 1 (.tup (.cons (.att (.var 2) 4) (.cons (.att (.var 2) 5) (.nil)))))) (.nil)))) (.cons (.ret (.var 1)) (.nil))))
def fd_law_halves : Fd := ⟨[.r], [], 3, c_law_halves, 0⟩
/-- _law_adds_up 10: _law_hands:v _law_numbers:r _law_halves_here:v -/
def n_law_adds_up : List Str := ["_law_hands", "_law_numbers", "_law_halves_here", "_law_mask", "_law_total", "_law_h", "_law_twice"]
def c_law_adds_up : Stms := .cons (.for_ (.name 3) (.range1 (.bi .len (.cons (.var 1) (.nil)))) (.cons (.set 4 (.int 0)) (.cons (.for_ (.name 5) (.range1 (.var 0)) (.cons (.set 6 (.bin .FloorDiv (.bin .Mult (.int 2) (.sub (.sub (.var 2) (.var 5)) (.int 0))) (.sub (.sub (.var 2) (.var 5)) (.int 1)))) (.cons (.ite (.nt (.bin .BitAnd (.var 3) (.bin .LShift (.int 1) (.var 5)))) (.cons (.set 6 (.neg (.var 6))) (.nil)) (.nil)) (.cons (.set 4 (.bin .Add (.var 4) (.var 6))) (.nil))))) (.cons (.ite (.cmp .NotEq (.var 4) (.bin .Mult (.int 2) (.sub (.var 1) (.var 3)))) (.cons (.ret (.bl false)) (.nil)) (.nil)) (.nil))))) (.cons (.ret (.bl true)) (.nil))
def fd_law_adds_up : Fd := ⟨[.v, .r, .v], [], 7, c_law_adds_up, 0⟩
/-- idle_hands 11: scale:v -/
def n_idle_hands : List Str := ["scale", "hand"]
def c_idle_hands : Stms := .cons (.ret (.bi .tuple (.cons (.comp (.var 1) (.name 1) (.range1 (.att (.var 0) 1)) (.nt (.bi .any (.cons (.call 20 (.cons (.var 0) (.cons (.var 1) (.nil)))) (.nil))))) (.nil)))) (.nil)
def fd_idle_hands : Fd := ⟨[.v], [], 2, c_idle_hands, 0⟩
/-- _law_idle 12: _law_hands:v _law_numbers:r -/
def n_law_idle : List Str := ["_law_hands", "_law_numbers", "_law_idle_here", "_law_h", "_law_added", "_law_k"]
def c_law_idle : Stms := .cons (.hold 2 (.lst (.nil))) (.cons (.for_ (.name 3) (.range1 (.var 0)) (.cons (.set 4 (.comp (.sub (.var 1) (.bin .BitOr (.var 5) (.bin .LShift (.int 1) (.var 3)))) (.name 5) (.range1 (.bi .len (.cons (.var 1) (.nil)))) (.bl true))) (.cons (.ite (.cmp .Eq (.var 4) (.var 1)) (.cons (.expr (.app 2 (.var 3))) (.nil)) (.nil)) (.nil)))) (.cons (.ret (.bi .tuple (.cons (.var 2) (.nil)))) (.nil)))
def fd_law_idle : Fd := ⟨[.v, .r], [], 6, c_law_idle, 0⟩
/-- check_hands 13: hands:v most:v -/
def n_check_hands : List Str := ["hands", "most"]
def c_check_hands : Stms := .cons (.ite (.nt (.cmp2 .LtE .LtE (.int 1) (.var 0) (.var 1))) (.cons (.never) (.nil)) (.nil)) (.nil)
def fd_check_hands : Fd := ⟨[.v, .v], [], 2, c_check_hands, 0⟩
/-- check_length 14: length:v low:v high:v -/
def n_check_length : List Str := ["length", "low", "high"]
def c_check_length : Stms := .cons (.ite (.nt (.cmp2 .LtE .LtE (.var 1) (.var 0) (.var 2))) (.cons (.never) (.nil)) (.nil)) (.nil)
def fd_check_length : Fd := ⟨[.v, .v, .v], [], 3, c_check_length, 0⟩
/-- check_opposite 15: hands:v numbers:v -/
def n_check_opposite : List Str := ["hands", "numbers", "mask"]
def c_check_opposite : Stms := .cons (.for_ (.name 2) (.range1 (.bin .LShift (.int 1) (.var 0))) (.cons (.ite (.cmp .NotEq (.sub (.var 1) (.var 2)) (.neg (.sub (.var 1) (.call 22 (.cons (.var 0) (.cons (.var 2) (.nil))))))) (.cons (.never) (.nil)) (.nil)) (.nil))) (.nil)
def fd_check_opposite : Fd := ⟨[.v, .v], [], 3, c_check_opposite, 0⟩
/-- check_rising 16: hands:v numbers:v -/
def n_check_rising : List Str := ["hands", "numbers", "mask", "hand"]
def c_check_rising : Stms := .cons (.for_ (.name 2) (.range1 (.bin .LShift (.int 1) (.var 0))) (.cons (.for_ (.name 3) (.range1 (.var 0)) (.cons (.ite (.cmp .Gt (.sub (.var 1) (.var 2)) (.sub (.var 1) (.call 23 (.cons (.var 2) (.cons (.var 3) (.nil)))))) (.cons (.never) (.nil)) (.nil)) (.nil))) (.nil))) (.nil)
def fd_check_rising : Fd := ⟨[.v, .v], [], 4, c_check_rising, 0⟩
/-- check_number 17: number:v low:v high:v -/
def n_check_number : List Str := ["number", "low", "high"]
def c_check_number : Stms := .cons (.ite (.nt (.cmp2 .LtE .LtE (.var 1) (.var 0) (.var 2))) (.cons (.never) (.nil)) (.nil)) (.nil)
def fd_check_number : Fd := ⟨[.v, .v, .v], [], 3, c_check_number, 0⟩
/-- _law_amounts 18: _law_hands:v _law_numbers:r -/
def n_law_amounts : List Str := ["_law_hands", "_law_numbers", "_law_h"]
def c_law_amounts : Stms := .cons (.ret (.comp (.bin .Sub (.sub (.var 1) (.bin .LShift (.int 1) (.var 2))) (.sub (.var 1) (.int 0))) (.name 2) (.range1 (.var 0)) (.bl true))) (.nil)
def fd_law_amounts : Fd := ⟨[.v, .r], [], 3, c_law_amounts, 0⟩
/-- _law_fits 19: _law_hands:v _law_numbers:r _law_amounts_here:v -/
def n_law_fits : List Str := ["_law_hands", "_law_numbers", "_law_amounts_here", "_law_mask", "_law_h", "_law_change"]
def c_law_fits : Stms := .cons (.for_ (.name 3) (.range1 (.bi .len (.cons (.var 1) (.nil)))) (.cons (.for_ (.name 4) (.range1 (.var 0)) (.cons (.set 5 (.bin .Sub (.sub (.var 1) (.bin .BitOr (.var 3) (.bin .LShift (.int 1) (.var 4)))) (.sub (.var 1) (.var 3)))) (.cons (.ite (.and (.nt (.bin .BitAnd (.var 3) (.bin .LShift (.int 1) (.var 4)))) (.cmp .NotEq (.var 5) (.sub (.var 2) (.var 4)))) (.cons (.ret (.bl false)) (.nil)) (.nil)) (.nil)))) (.nil))) (.cons (.ret (.bl true)) (.nil))
def fd_law_fits : Fd := ⟨[.v, .r, .v], [], 6, c_law_fits, 0⟩
/-- amounts_of 20: scale:v hand:v -/
def n_amounts_of : List Str := ["scale", "hand", "numbers", "without", "mask"]
def c_amounts_of : Stms := .cons (.set 2 (.lso (.var 0))) (.cons (.set 3 (.comp (.var 4) (.name 4) (.range1 (.bi .len (.cons (.var 2) (.nil)))) (.nt (.call 24 (.cons (.var 4) (.cons (.var 1) (.nil))))))) (.cons (.ret (.comp (.bin .Sub (.sub (.var 2) (.call 23 (.cons (.var 4) (.cons (.var 1) (.nil))))) (.sub (.var 2) (.var 4))) (.name 4) (.of (.var 3)) (.bl true))) (.nil)))
def fd_amounts_of : Fd := ⟨[.v, .v], [], 5, c_amounts_of, 0⟩
/-- Ratio.__init__ 21: self:m top:v bottom:v _bounded:v -/
def n_Ratio___init : List Str := ["self", "top", "bottom", "_bounded", "divisor"]
def c_Ratio___init : Stms := .cons (.ite (.var 3) (.cons (.expr (.call 17 (.cons (.var 1) (.cons (.neg (.glo 1)) (.cons (.glo 1) (.nil)))))) (.cons (.expr (.call 17 (.cons (.var 2) (.cons (.int 1) (.cons (.glo 1) (.nil)))))) (.nil))) (.nil)) (.cons (.set 4 (.bi .gcd (.cons (.var 1) (.cons (.var 2) (.nil))))) (.cons (.ite (.cmp .Lt (.var 2) (.int 0)) (.cons (.set 4 (.neg (.var 4))) (.nil)) (.nil)) (.cons (.setatt 0 4 (.bin .FloorDiv (.var 1) (.var 4))) (.cons (.setatt 0 5 (.bin .FloorDiv (.var 2) (.var 4))) (.nil)))))
def fd_Ratio___init : Fd := ⟨[.m, .v, .v, .v], [.int 1, .bl true], 5, c_Ratio___init, 1⟩
/-- rest_mask 22: hands:v mask:v -/
def n_rest_mask : List Str := ["hands", "mask"]
def c_rest_mask : Stms := .cons (.ret (.bin .Sub (.bin .Sub (.bin .LShift (.int 1) (.var 0)) (.int 1)) (.var 1))) (.nil)
def fd_rest_mask : Fd := ⟨[.v, .v], [], 2, c_rest_mask, 0⟩
/-- with_hand 23: mask:v hand:v -/
def n_with_hand : List Str := ["mask", "hand"]
def c_with_hand : Stms := .cons (.ret (.bin .BitOr (.var 0) (.bin .LShift (.int 1) (.var 1)))) (.nil)
def fd_with_hand : Fd := ⟨[.v, .v], [], 2, c_with_hand, 0⟩
/-- has_hand 24: mask:v hand:v -/
def n_has_hand : List Str := ["mask", "hand"]
def c_has_hand : Stms := .cons (.ret (.cmp .Eq (.bin .BitAnd (.bin .RShift (.var 0) (.var 1)) (.int 1)) (.int 1))) (.nil)
def fd_has_hand : Fd := ⟨[.v, .v], [], 2, c_has_hand, 0⟩
theorem ck_law : chkSs n_law (mkFld flds) M (defScope s_law) c_law (defBody s_law) = true := by decide +kernel
theorem sc_law : FnScope n_law ["_law_script"] (defScope s_law) := ⟨by decide +kernel, by decide +kernel, by decide +kernel, by decide +kernel, by decide +kernel, by decide +kernel, by decide +kernel⟩
theorem ck_Scale___init : chkSs n_Scale___init (mkFld flds) M (defScope s_Scale___init) c_Scale___init (defBody s_Scale___init) = true := by decide +kernel
theorem sc_Scale___init : FnScope n_Scale___init ["self", "hands", "numbers"] (defScope s_Scale___init) := ⟨by decide +kernel, by decide +kernel, by decide +kernel, by decide +kernel, by decide +kernel, by decide +kernel, by decide +kernel⟩
theorem ck_law_digit : chkSs n_law_digit (mkFld flds) M (defScope s_law_digit) c_law_digit (defBody s_law_digit) = true := by decide +kernel
theorem sc_law_digit : FnScope n_law_digit ["_law_cells", "_law_box", "_law_m"] (defScope s_law_digit) := ⟨by decide +kernel, by decide +kernel, by decide +kernel, by decide +kernel, by decide +kernel, by decide +kernel, by decide +kernel⟩
theorem ck_law_by_amounts : chkSs n_law_by_amounts (mkFld flds) M (defScope s_law_by_amounts) c_law_by_amounts (defBody s_law_by_amounts) = true := by decide +kernel
theorem sc_law_by_amounts : FnScope n_law_by_amounts ["_law_cells", "_law_box", "_law_hands"] (defScope s_law_by_amounts) := ⟨by decide +kernel, by decide +kernel, by decide +kernel, by decide +kernel, by decide +kernel, by decide +kernel, by decide +kernel⟩
theorem ck_law_due_halves : chkSs n_law_due_halves (mkFld flds) M (defScope s_law_due_halves) c_law_due_halves (defBody s_law_due_halves) = true := by decide +kernel
theorem sc_law_due_halves : FnScope n_law_due_halves ["_law_hands", "_law_numbers"] (defScope s_law_due_halves) := ⟨by decide +kernel, by decide +kernel, by decide +kernel, by decide +kernel, by decide +kernel, by decide +kernel, by decide +kernel⟩
theorem ck_additive : chkSs n_additive (mkFld flds) M (defScope s_additive) c_additive (defBody s_additive) = true := by decide +kernel
theorem sc_additive : FnScope n_additive ["scale"] (defScope s_additive) := ⟨by decide +kernel, by decide +kernel, by decide +kernel, by decide +kernel, by decide +kernel, by decide +kernel, by decide +kernel⟩
theorem ck_law_same : chkSs n_law_same (mkFld flds) M (defScope s_law_same) c_law_same (defBody s_law_same) = true := by decide +kernel
theorem sc_law_same : FnScope n_law_same ["_law_told", "_law_due"] (defScope s_law_same) := ⟨by decide +kernel, by decide +kernel, by decide +kernel, by decide +kernel, by decide +kernel, by decide +kernel, by decide +kernel⟩
theorem ck_law_push : chkSs n_law_push (mkFld flds) M (defScope s_law_push) c_law_push (defBody s_law_push) = true := by decide +kernel
theorem sc_law_push : FnScope n_law_push ["_law_numbers", "_law_mask", "_law_number"] (defScope s_law_push) := ⟨by decide +kernel, by decide +kernel, by decide +kernel, by decide +kernel, by decide +kernel, by decide +kernel, by decide +kernel⟩
theorem ck_law_pushed : chkSs n_law_pushed (mkFld flds) M (defScope s_law_pushed) c_law_pushed (defBody s_law_pushed) = true := by decide +kernel
theorem sc_law_pushed : FnScope n_law_pushed ["_law_cells", "_law_box", "_law_hands", "_law_start"] (defScope s_law_pushed) := ⟨by decide +kernel, by decide +kernel, by decide +kernel, by decide +kernel, by decide +kernel, by decide +kernel, by decide +kernel⟩
theorem ck_law_halves : chkSs n_law_halves (mkFld flds) M (defScope s_law_halves) c_law_halves (defBody s_law_halves) = true := by decide +kernel
theorem sc_law_halves : FnScope n_law_halves ["_law_told"] (defScope s_law_halves) := ⟨by decide +kernel, by decide +kernel, by decide +kernel, by decide +kernel, by decide +kernel, by decide +kernel, by decide +kernel⟩
theorem ck_law_adds_up : chkSs n_law_adds_up (mkFld flds) M (defScope s_law_adds_up) c_law_adds_up (defBody s_law_adds_up) = true := by decide +kernel
theorem sc_law_adds_up : FnScope n_law_adds_up ["_law_hands", "_law_numbers", "_law_halves_here"] (defScope s_law_adds_up) := ⟨by decide +kernel, by decide +kernel, by decide +kernel, by decide +kernel, by decide +kernel, by decide +kernel, by decide +kernel⟩
theorem ck_idle_hands : chkSs n_idle_hands (mkFld flds) M (defScope s_idle_hands) c_idle_hands (defBody s_idle_hands) = true := by decide +kernel
theorem sc_idle_hands : FnScope n_idle_hands ["scale"] (defScope s_idle_hands) := ⟨by decide +kernel, by decide +kernel, by decide +kernel, by decide +kernel, by decide +kernel, by decide +kernel, by decide +kernel⟩
theorem ck_law_idle : chkSs n_law_idle (mkFld flds) M (defScope s_law_idle) c_law_idle (defBody s_law_idle) = true := by decide +kernel
theorem sc_law_idle : FnScope n_law_idle ["_law_hands", "_law_numbers"] (defScope s_law_idle) := ⟨by decide +kernel, by decide +kernel, by decide +kernel, by decide +kernel, by decide +kernel, by decide +kernel, by decide +kernel⟩
theorem ck_check_hands : chkSs n_check_hands (mkFld flds) M (defScope s_check_hands) c_check_hands (defBody s_check_hands) = true := by decide +kernel
theorem sc_check_hands : FnScope n_check_hands ["hands", "most"] (defScope s_check_hands) := ⟨by decide +kernel, by decide +kernel, by decide +kernel, by decide +kernel, by decide +kernel, by decide +kernel, by decide +kernel⟩
theorem ck_check_length : chkSs n_check_length (mkFld flds) M (defScope s_check_length) c_check_length (defBody s_check_length) = true := by decide +kernel
theorem sc_check_length : FnScope n_check_length ["length", "low", "high"] (defScope s_check_length) := ⟨by decide +kernel, by decide +kernel, by decide +kernel, by decide +kernel, by decide +kernel, by decide +kernel, by decide +kernel⟩
theorem ck_check_opposite : chkSs n_check_opposite (mkFld flds) M (defScope s_check_opposite) c_check_opposite (defBody s_check_opposite) = true := by decide +kernel
theorem sc_check_opposite : FnScope n_check_opposite ["hands", "numbers"] (defScope s_check_opposite) := ⟨by decide +kernel, by decide +kernel, by decide +kernel, by decide +kernel, by decide +kernel, by decide +kernel, by decide +kernel⟩
theorem ck_check_rising : chkSs n_check_rising (mkFld flds) M (defScope s_check_rising) c_check_rising (defBody s_check_rising) = true := by decide +kernel
theorem sc_check_rising : FnScope n_check_rising ["hands", "numbers"] (defScope s_check_rising) := ⟨by decide +kernel, by decide +kernel, by decide +kernel, by decide +kernel, by decide +kernel, by decide +kernel, by decide +kernel⟩
theorem ck_check_number : chkSs n_check_number (mkFld flds) M (defScope s_check_number) c_check_number (defBody s_check_number) = true := by decide +kernel
theorem sc_check_number : FnScope n_check_number ["number", "low", "high"] (defScope s_check_number) := ⟨by decide +kernel, by decide +kernel, by decide +kernel, by decide +kernel, by decide +kernel, by decide +kernel, by decide +kernel⟩
theorem ck_law_amounts : chkSs n_law_amounts (mkFld flds) M (defScope s_law_amounts) c_law_amounts (defBody s_law_amounts) = true := by decide +kernel
theorem sc_law_amounts : FnScope n_law_amounts ["_law_hands", "_law_numbers"] (defScope s_law_amounts) := ⟨by decide +kernel, by decide +kernel, by decide +kernel, by decide +kernel, by decide +kernel, by decide +kernel, by decide +kernel⟩
theorem ck_law_fits : chkSs n_law_fits (mkFld flds) M (defScope s_law_fits) c_law_fits (defBody s_law_fits) = true := by decide +kernel
theorem sc_law_fits : FnScope n_law_fits ["_law_hands", "_law_numbers", "_law_amounts_here"] (defScope s_law_fits) := ⟨by decide +kernel, by decide +kernel, by decide +kernel, by decide +kernel, by decide +kernel, by decide +kernel, by decide +kernel⟩
theorem ck_amounts_of : chkSs n_amounts_of (mkFld flds) M (defScope s_amounts_of) c_amounts_of (defBody s_amounts_of) = true := by decide +kernel
theorem sc_amounts_of : FnScope n_amounts_of ["scale", "hand"] (defScope s_amounts_of) := ⟨by decide +kernel, by decide +kernel, by decide +kernel, by decide +kernel, by decide +kernel, by decide +kernel, by decide +kernel⟩
theorem ck_Ratio___init : chkSs n_Ratio___init (mkFld flds) M (defScope s_Ratio___init) c_Ratio___init (defBody s_Ratio___init) = true := by decide +kernel
theorem sc_Ratio___init : FnScope n_Ratio___init ["self", "top", "bottom", "_bounded"] (defScope s_Ratio___init) := ⟨by decide +kernel, by decide +kernel, by decide +kernel, by decide +kernel, by decide +kernel, by decide +kernel, by decide +kernel⟩
theorem ck_rest_mask : chkSs n_rest_mask (mkFld flds) M (defScope s_rest_mask) c_rest_mask (defBody s_rest_mask) = true := by decide +kernel
theorem sc_rest_mask : FnScope n_rest_mask ["hands", "mask"] (defScope s_rest_mask) := ⟨by decide +kernel, by decide +kernel, by decide +kernel, by decide +kernel, by decide +kernel, by decide +kernel, by decide +kernel⟩
theorem ck_with_hand : chkSs n_with_hand (mkFld flds) M (defScope s_with_hand) c_with_hand (defBody s_with_hand) = true := by decide +kernel
theorem sc_with_hand : FnScope n_with_hand ["mask", "hand"] (defScope s_with_hand) := ⟨by decide +kernel, by decide +kernel, by decide +kernel, by decide +kernel, by decide +kernel, by decide +kernel, by decide +kernel⟩
theorem ck_has_hand : chkSs n_has_hand (mkFld flds) M (defScope s_has_hand) c_has_hand (defBody s_has_hand) = true := by decide +kernel
theorem sc_has_hand : FnScope n_has_hand ["mask", "hand"] (defScope s_has_hand) := ⟨by decide +kernel, by decide +kernel, by decide +kernel, by decide +kernel, by decide +kernel, by decide +kernel, by decide +kernel⟩
theorem sci_Scale : FnScope ["self"] ["self"] (defScope si_Scale) := ⟨by decide +kernel, by decide +kernel, by decide +kernel, by decide +kernel, by decide +kernel, by decide +kernel, by decide +kernel⟩
theorem cki_Scale : iterB "self" "_numbers" (defBody si_Scale) = true ∧ (defScope si_Scale).names.lookup ("iter" : Str) = some .globalImplicit ∧ (defScope si_Scale).names.lookup ("self" : Str) = some .local := by decide +kernel
def con : Nat → Option D
  | 0 => some (.int 7)
  | 1 => some (.int 1000000000000000000000000000000000000000000000000000000000000)
  | _ => none
def ccon : Nat → Nat → Option D
  | 0, 3 => some (.int 1000000000)
  | _, _ => none
def cfl : Nat → List Nat
  | 0 => [1, 2]
  | 1 => [4, 5]
  | _ => []
def cme : Nat → Nat → Option Nat
  | _, _ => none
def cin : Nat → Option Nat
  | 0 => some 1
  | 1 => some 21
  | _ => none
def cit : Nat → Option Nat
  | 0 => some 2
  | _ => none
def cisi : Ty → Ty → Option Bool
  | .cls 0, .bl => some false
  | .cls 0, .int => some false
  | .cls 0, .str => some false
  | .cls 0, .lst => some false
  | .cls 0, .tup => some false
  | .cls 0, .cls 0 => some true
  | .cls 0, .cls 1 => some false
  | .cls 1, .bl => some false
  | .cls 1, .int => some false
  | .cls 1, .str => some false
  | .cls 1, .lst => some false
  | .cls 1, .tup => some false
  | .cls 1, .cls 0 => some false
  | .cls 1, .cls 1 => some true
  | .non, .cls 0 => some false
  | .bl, .cls 0 => some false
  | .int, .cls 0 => some false
  | .str, .cls 0 => some false
  | .lst, .cls 0 => some false
  | .tup, .cls 0 => some false
  | .dic, .cls 0 => some false
  | .non, .cls 1 => some false
  | .bl, .cls 1 => some false
  | .int, .cls 1 => some false
  | .str, .cls 1 => some false
  | .lst, .cls 1 => some false
  | .tup, .cls 1 => some false
  | .dic, .cls 1 => some false
  | a, b => isiB a b
def fnT : Nat → Option Fd
  | 0 => some fd_law
  | 1 => some fd_Scale___init
  | 2 => some fd_law_digit
  | 3 => some fd_law_by_amounts
  | 4 => some fd_law_due_halves
  | 5 => some fd_additive
  | 6 => some fd_law_same
  | 7 => some fd_law_push
  | 8 => some fd_law_pushed
  | 9 => some fd_law_halves
  | 10 => some fd_law_adds_up
  | 11 => some fd_idle_hands
  | 12 => some fd_law_idle
  | 13 => some fd_check_hands
  | 14 => some fd_check_length
  | 15 => some fd_check_opposite
  | 16 => some fd_check_rising
  | 17 => some fd_check_number
  | 18 => some fd_law_amounts
  | 19 => some fd_law_fits
  | 20 => some fd_amounts_of
  | 21 => some fd_Ratio___init
  | 22 => some fd_rest_mask
  | 23 => some fd_with_hand
  | 24 => some fd_has_hand
  | _ => none
def T : Tab := ⟨fnT, con, ccon, cfl, cme, cin, cit, fun _ => none, cisi, fun _ _ => false, 0⟩
theorem dfl_Ratio___init {K : PySem.W.Frag} {f dT dK : Addr} {dO : Obj} {dN : Nat} {oc dc pm cd ct v0 k0 : Value} {od an : Option Addr} {sl : Array (Option Value)}
    (l : K.lookup f = some ⟨oc, od, .func (PySem.W.fnOf "__init__" "Ratio.__init__" (defArgs s_Ratio___init) (defBody s_Ratio___init) (defScope s_Ratio___init) (.ref dT) (.ref dK) dc pm an cd ct), sl⟩) (c : PySem.W.codeIn K cd "Ratio.__init__" = true)
    (dt : K.lookup dT = some dO) (ds : dO.data = .seq [v0].toArray dN) (dr : Vals [toV (.int 1)] [v0])
    (dk0 : PySem.W.nsIn K dK "_bounded" = some (some k0))
    (dq0 : RelV (toV (.bl true)) k0)
    : ∀ j, j + 1 ≤ 2 → ∃ ds, Binds K (PySem.W.fnOf "__init__" "Ratio.__init__" (defArgs s_Ratio___init) (defBody s_Ratio___init) (defScope s_Ratio___init) (.ref dT) (.ref dK) dc pm an cd ct) ["self", "top", "bottom", "_bounded"] ds ∧ Vals (((([.int 1, .bl true] : List D).drop j)).map toV) ds := fun j hj => by
  by_cases h0 : j = 0
  · subst h0
    refine ⟨[v0, k0], fun s us X hl => ?_, ?_⟩
    · have hl2 : us.length = 2 := by simpa using hl
      match us, hl2 with
      | [u0, u1], _ =>
        have hh : ∃ k, bindArgs (PySem.W.fnOf "__init__" "Ratio.__init__" (defArgs s_Ratio___init) (defBody s_Ratio___init) (defScope s_Ratio___init) (.ref dT) (.ref dK) dc pm an cd ct) ⟨[u0, u1], []⟩ = seqItems? (.ref dT) >>= k ∧ KwChain dK [("_bounded", k0)] (k (some #[v0])) ((["self", "top", "bottom", "_bounded"] : List Str).zip [u0, u1, v0, k0]) := ⟨_, rfl, _, _, _, _, _, _, rfl, rfl, rfl⟩
        obtain ⟨k, e1, e2⟩ := hh
        refine BindsTo.of_looks fun M => ?_
        rw [e1]
        refine looks_items X dt ds (KwChain.looks X (fun q hq => ?_) e2)
        simp only [List.mem_cons, List.not_mem_nil, or_false] at hq
        rcases hq with rfl
        · exact dk0
    · exact (show Vals [toV (.int 1), toV (.bl true)] [v0, k0] from by
        have d0 := dr
        obtain _ | ⟨r0, d1⟩ := d0
        exact .cons r0 (.cons dq0 (.nil)))
  by_cases h1 : j = 1
  · subst h1
    refine ⟨[k0], fun s us X hl => ?_, ?_⟩
    · have hl2 : us.length = 3 := by simpa using hl
      match us, hl2 with
      | [u0, u1, u2], _ =>
        have hh : ∃ k, bindArgs (PySem.W.fnOf "__init__" "Ratio.__init__" (defArgs s_Ratio___init) (defBody s_Ratio___init) (defScope s_Ratio___init) (.ref dT) (.ref dK) dc pm an cd ct) ⟨[u0, u1, u2], []⟩ = seqItems? (.ref dT) >>= k ∧ KwChain dK [("_bounded", k0)] (k (some #[v0])) ((["self", "top", "bottom", "_bounded"] : List Str).zip [u0, u1, u2, k0]) := ⟨_, rfl, _, _, _, _, _, _, rfl, rfl, rfl⟩
        obtain ⟨k, e1, e2⟩ := hh
        refine BindsTo.of_looks fun M => ?_
        rw [e1]
        refine looks_items X dt ds (KwChain.looks X (fun q hq => ?_) e2)
        simp only [List.mem_cons, List.not_mem_nil, or_false] at hq
        rcases hq with rfl
        · exact dk0
    · exact (show Vals [toV (.bl true)] [k0] from by
        have d0 := dr
        obtain _ | ⟨r0, d1⟩ := d0
        exact .cons dq0 (.nil))
  · omega
theorem fn_law : fnT 0 = some fd_law := id rfl
theorem fn_Scale___init : fnT 1 = some fd_Scale___init := id rfl
theorem fn_law_digit : fnT 2 = some fd_law_digit := id rfl
theorem cd_law_digit {cl : Cl} {a0 a1 a2 : Rv} {ρ : Env} : callD T cl 2 [a0, a1, a2] ρ = callG (cl 2) [.v, .m, .v] [a0, a1, a2] ρ := id rfl
theorem fn_law_by_amounts : fnT 3 = some fd_law_by_amounts := id rfl
theorem cd_law_by_amounts {cl : Cl} {a0 a1 a2 : Rv} {ρ : Env} : callD T cl 3 [a0, a1, a2] ρ = callG (cl 3) [.v, .m, .v] [a0, a1, a2] ρ := id rfl
theorem fn_law_due_halves : fnT 4 = some fd_law_due_halves := id rfl
theorem cd_law_due_halves {cl : Cl} {a0 a1 : Rv} {ρ : Env} : callD T cl 4 [a0, a1] ρ = callG (cl 4) [.v, .r] [a0, a1] ρ := id rfl
theorem fn_additive : fnT 5 = some fd_additive := id rfl
theorem cd_additive {cl : Cl} {a0 : Rv} {ρ : Env} : callD T cl 5 [a0] ρ = callG (cl 5) [.v] [a0] ρ := id rfl
theorem fn_law_same : fnT 6 = some fd_law_same := id rfl
theorem cd_law_same {cl : Cl} {a0 a1 : Rv} {ρ : Env} : callD T cl 6 [a0, a1] ρ = callG (cl 6) [.v, .r] [a0, a1] ρ := id rfl
theorem fn_law_push : fnT 7 = some fd_law_push := id rfl
theorem cd_law_push {cl : Cl} {a0 a1 a2 : Rv} {ρ : Env} : callD T cl 7 [a0, a1, a2] ρ = callG (cl 7) [.m, .v, .v] [a0, a1, a2] ρ := id rfl
theorem fn_law_pushed : fnT 8 = some fd_law_pushed := id rfl
theorem cd_law_pushed {cl : Cl} {a0 a1 a2 a3 : Rv} {ρ : Env} : callD T cl 8 [a0, a1, a2, a3] ρ = callG (cl 8) [.v, .m, .v, .v] [a0, a1, a2, a3] ρ := id rfl
theorem fn_law_halves : fnT 9 = some fd_law_halves := id rfl
theorem cd_law_halves {cl : Cl} {a0 : Rv} {ρ : Env} : callD T cl 9 [a0] ρ = callG (cl 9) [.r] [a0] ρ := id rfl
theorem fn_law_adds_up : fnT 10 = some fd_law_adds_up := id rfl
theorem cd_law_adds_up {cl : Cl} {a0 a1 a2 : Rv} {ρ : Env} : callD T cl 10 [a0, a1, a2] ρ = callG (cl 10) [.v, .r, .v] [a0, a1, a2] ρ := id rfl
theorem fn_idle_hands : fnT 11 = some fd_idle_hands := id rfl
theorem cd_idle_hands {cl : Cl} {a0 : Rv} {ρ : Env} : callD T cl 11 [a0] ρ = callG (cl 11) [.v] [a0] ρ := id rfl
theorem fn_law_idle : fnT 12 = some fd_law_idle := id rfl
theorem cd_law_idle {cl : Cl} {a0 a1 : Rv} {ρ : Env} : callD T cl 12 [a0, a1] ρ = callG (cl 12) [.v, .r] [a0, a1] ρ := id rfl
theorem fn_check_hands : fnT 13 = some fd_check_hands := id rfl
theorem cd_check_hands {cl : Cl} {a0 a1 : Rv} {ρ : Env} : callD T cl 13 [a0, a1] ρ = callG (cl 13) [.v, .v] [a0, a1] ρ := id rfl
theorem fn_check_length : fnT 14 = some fd_check_length := id rfl
theorem cd_check_length {cl : Cl} {a0 a1 a2 : Rv} {ρ : Env} : callD T cl 14 [a0, a1, a2] ρ = callG (cl 14) [.v, .v, .v] [a0, a1, a2] ρ := id rfl
theorem fn_check_opposite : fnT 15 = some fd_check_opposite := id rfl
theorem cd_check_opposite {cl : Cl} {a0 a1 : Rv} {ρ : Env} : callD T cl 15 [a0, a1] ρ = callG (cl 15) [.v, .v] [a0, a1] ρ := id rfl
theorem fn_check_rising : fnT 16 = some fd_check_rising := id rfl
theorem cd_check_rising {cl : Cl} {a0 a1 : Rv} {ρ : Env} : callD T cl 16 [a0, a1] ρ = callG (cl 16) [.v, .v] [a0, a1] ρ := id rfl
theorem fn_check_number : fnT 17 = some fd_check_number := id rfl
theorem cd_check_number {cl : Cl} {a0 a1 a2 : Rv} {ρ : Env} : callD T cl 17 [a0, a1, a2] ρ = callG (cl 17) [.v, .v, .v] [a0, a1, a2] ρ := id rfl
theorem fn_law_amounts : fnT 18 = some fd_law_amounts := id rfl
theorem cd_law_amounts {cl : Cl} {a0 a1 : Rv} {ρ : Env} : callD T cl 18 [a0, a1] ρ = callG (cl 18) [.v, .r] [a0, a1] ρ := id rfl
theorem fn_law_fits : fnT 19 = some fd_law_fits := id rfl
theorem cd_law_fits {cl : Cl} {a0 a1 a2 : Rv} {ρ : Env} : callD T cl 19 [a0, a1, a2] ρ = callG (cl 19) [.v, .r, .v] [a0, a1, a2] ρ := id rfl
theorem fn_amounts_of : fnT 20 = some fd_amounts_of := id rfl
theorem cd_amounts_of {cl : Cl} {a0 a1 : Rv} {ρ : Env} : callD T cl 20 [a0, a1] ρ = callG (cl 20) [.v, .v] [a0, a1] ρ := id rfl
theorem fn_Ratio___init : fnT 21 = some fd_Ratio___init := id rfl
theorem fn_rest_mask : fnT 22 = some fd_rest_mask := id rfl
theorem cd_rest_mask {cl : Cl} {a0 a1 : Rv} {ρ : Env} : callD T cl 22 [a0, a1] ρ = callG (cl 22) [.v, .v] [a0, a1] ρ := id rfl
theorem fn_with_hand : fnT 23 = some fd_with_hand := id rfl
theorem cd_with_hand {cl : Cl} {a0 a1 : Rv} {ρ : Env} : callD T cl 23 [a0, a1] ρ = callG (cl 23) [.v, .v] [a0, a1] ρ := id rfl
theorem fn_has_hand : fnT 24 = some fd_has_hand := id rfl
theorem cd_has_hand {cl : Cl} {a0 a1 : Rv} {ρ : Env} : callD T cl 24 [a0, a1] ρ = callG (cl 24) [.v, .v] [a0, a1] ρ := id rfl
theorem nd_Scale_2 {cl : Cl} {a0 a1 : Rv} {ρ : Env} : newD T cl 0 [a0, a1] ρ = newG (cl 1) [.m, .v, .v] ([.own (.ins 0 []), a0, a1] ++ []) ρ := id rfl
theorem nd_Ratio_1 {cl : Cl} {a0 : Rv} {ρ : Env} : newD T cl 1 [a0] ρ = newG (cl 21) [.m, .v, .v, .v] ([.own (.ins 1 []), a0] ++ [.val (.int 1), .val (.bl true)]) ρ := id rfl
theorem nd_Ratio_2 {cl : Cl} {a0 a1 : Rv} {ρ : Env} : newD T cl 1 [a0, a1] ρ = newG (cl 21) [.m, .v, .v, .v] ([.own (.ins 1 []), a0, a1] ++ [.val (.bl true)]) ρ := id rfl
theorem at_Scale_hands {d0 d1 : D} : attD T 1 (.ins 0 [(1, d0), (2, d1)]) = some (false, d0) := id rfl
theorem at_Scale_numbers {d0 d1 : D} : attD T 2 (.ins 0 [(1, d0), (2, d1)]) = some (false, d1) := id rfl
theorem li_Scale {d0 : D} {xs : List D} : lsoD T (.ins 0 [(1, d0), (2, (.tup xs))]) = some (true, .lst xs) := id rfl
theorem at_Ratio_top {d0 d1 : D} : attD T 4 (.ins 1 [(4, d0), (5, d1)]) = some (false, d0) := id rfl
theorem at_Ratio_bottom {d0 d1 : D} : attD T 5 (.ins 1 [(4, d0), (5, d1)]) = some (false, d1) := id rfl
theorem cc_Scale_MOST : T.ccon 0 3 = some (.int 1000000000) := id rfl
theorem gl_MOST_HANDS : T.con 0 = some (.int 7) := id rfl
theorem gl_MOST_PART : T.con 1 = some (.int 1000000000000000000000000000000000000000000000000000000000000) := id rfl
theorem is_Scale_non : isiD T (.cls 0) .non = some (false, .bl false) := id rfl
theorem is_Scale_bl {b : Bool} : isiD T (.cls 0) (.bl b) = some (false, .bl false) := id rfl
theorem is_Scale_int {i : Int} : isiD T (.cls 0) (.int i) = some (false, .bl false) := id rfl
theorem is_Scale_str {x : Str} : isiD T (.cls 0) (.str x) = some (false, .bl false) := id rfl
theorem is_Scale_lst {xs : List D} : isiD T (.cls 0) (.lst xs) = some (false, .bl false) := id rfl
theorem is_Scale_tup {xs : List D} : isiD T (.cls 0) (.tup xs) = some (false, .bl false) := id rfl
theorem is_Scale_Scale {fs : List (Nat × D)} : isiD T (.cls 0) (.ins 0 fs) = some (false, .bl true) := id rfl
theorem is_Scale_Ratio {fs : List (Nat × D)} : isiD T (.cls 0) (.ins 1 fs) = some (false, .bl false) := id rfl
theorem is_bool_non : isiD T .bl .non = some (false, .bl false) := id rfl
theorem is_bool_bl {b : Bool} : isiD T .bl (.bl b) = some (false, .bl true) := id rfl
theorem is_bool_int {i : Int} : isiD T .bl (.int i) = some (false, .bl false) := id rfl
theorem is_bool_str {x : Str} : isiD T .bl (.str x) = some (false, .bl false) := id rfl
theorem is_bool_lst {xs : List D} : isiD T .bl (.lst xs) = some (false, .bl false) := id rfl
theorem is_bool_tup {xs : List D} : isiD T .bl (.tup xs) = some (false, .bl false) := id rfl
theorem is_bool_Scale {fs : List (Nat × D)} : isiD T .bl (.ins 0 fs) = some (false, .bl false) := id rfl
theorem is_bool_Ratio {fs : List (Nat × D)} : isiD T .bl (.ins 1 fs) = some (false, .bl false) := id rfl
theorem is_int_non : isiD T .int .non = some (false, .bl false) := id rfl
theorem is_int_bl {b : Bool} : isiD T .int (.bl b) = some (false, .bl true) := id rfl
theorem is_int_int {i : Int} : isiD T .int (.int i) = some (false, .bl true) := id rfl
theorem is_int_str {x : Str} : isiD T .int (.str x) = some (false, .bl false) := id rfl
theorem is_int_lst {xs : List D} : isiD T .int (.lst xs) = some (false, .bl false) := id rfl
theorem is_int_tup {xs : List D} : isiD T .int (.tup xs) = some (false, .bl false) := id rfl
theorem is_int_Scale {fs : List (Nat × D)} : isiD T .int (.ins 0 fs) = some (false, .bl false) := id rfl
theorem is_int_Ratio {fs : List (Nat × D)} : isiD T .int (.ins 1 fs) = some (false, .bl false) := id rfl
theorem is_str_non : isiD T .str .non = some (false, .bl false) := id rfl
theorem is_str_bl {b : Bool} : isiD T .str (.bl b) = some (false, .bl false) := id rfl
theorem is_str_int {i : Int} : isiD T .str (.int i) = some (false, .bl false) := id rfl
theorem is_str_str {x : Str} : isiD T .str (.str x) = some (false, .bl true) := id rfl
theorem is_str_lst {xs : List D} : isiD T .str (.lst xs) = some (false, .bl false) := id rfl
theorem is_str_tup {xs : List D} : isiD T .str (.tup xs) = some (false, .bl false) := id rfl
theorem is_str_Scale {fs : List (Nat × D)} : isiD T .str (.ins 0 fs) = some (false, .bl false) := id rfl
theorem is_str_Ratio {fs : List (Nat × D)} : isiD T .str (.ins 1 fs) = some (false, .bl false) := id rfl
theorem is_list_non : isiD T .lst .non = some (false, .bl false) := id rfl
theorem is_list_bl {b : Bool} : isiD T .lst (.bl b) = some (false, .bl false) := id rfl
theorem is_list_int {i : Int} : isiD T .lst (.int i) = some (false, .bl false) := id rfl
theorem is_list_str {x : Str} : isiD T .lst (.str x) = some (false, .bl false) := id rfl
theorem is_list_lst {xs : List D} : isiD T .lst (.lst xs) = some (false, .bl true) := id rfl
theorem is_list_tup {xs : List D} : isiD T .lst (.tup xs) = some (false, .bl false) := id rfl
theorem is_list_Scale {fs : List (Nat × D)} : isiD T .lst (.ins 0 fs) = some (false, .bl false) := id rfl
theorem is_list_Ratio {fs : List (Nat × D)} : isiD T .lst (.ins 1 fs) = some (false, .bl false) := id rfl
theorem is_tuple_non : isiD T .tup .non = some (false, .bl false) := id rfl
theorem is_tuple_bl {b : Bool} : isiD T .tup (.bl b) = some (false, .bl false) := id rfl
theorem is_tuple_int {i : Int} : isiD T .tup (.int i) = some (false, .bl false) := id rfl
theorem is_tuple_str {x : Str} : isiD T .tup (.str x) = some (false, .bl false) := id rfl
theorem is_tuple_lst {xs : List D} : isiD T .tup (.lst xs) = some (false, .bl false) := id rfl
theorem is_tuple_tup {xs : List D} : isiD T .tup (.tup xs) = some (false, .bl true) := id rfl
theorem is_tuple_Scale {fs : List (Nat × D)} : isiD T .tup (.ins 0 fs) = some (false, .bl false) := id rfl
theorem is_tuple_Ratio {fs : List (Nat × D)} : isiD T .tup (.ins 1 fs) = some (false, .bl false) := id rfl
theorem is_Ratio_non : isiD T (.cls 1) .non = some (false, .bl false) := id rfl
theorem is_Ratio_bl {b : Bool} : isiD T (.cls 1) (.bl b) = some (false, .bl false) := id rfl
theorem is_Ratio_int {i : Int} : isiD T (.cls 1) (.int i) = some (false, .bl false) := id rfl
theorem is_Ratio_str {x : Str} : isiD T (.cls 1) (.str x) = some (false, .bl false) := id rfl
theorem is_Ratio_lst {xs : List D} : isiD T (.cls 1) (.lst xs) = some (false, .bl false) := id rfl
theorem is_Ratio_tup {xs : List D} : isiD T (.cls 1) (.tup xs) = some (false, .bl false) := id rfl
theorem is_Ratio_Scale {fs : List (Nat × D)} : isiD T (.cls 1) (.ins 0 fs) = some (false, .bl false) := id rfl
theorem is_Ratio_Ratio {fs : List (Nat × D)} : isiD T (.cls 1) (.ins 1 fs) = some (false, .bl true) := id rfl
end Wf.L10

namespace Wf.L10
open PySem PySem.Spec PyProof.Rows L2 Wf
theorem T_fn (i : Nat) : T.fn i = fnT i := rfl
theorem callF_at {n f : Nat} {fd : Fd} {as : List Slot} (h : fnT f = some fd) (hm : modeOk fd.modes as = true) : callF T (n + 1) f as = finC as (evalSs T (callF T n) fd.body (as ++ List.replicate (fd.ns - as.length) .un)) := by
  unfold callF
  rw [T_fn, h]
  simp only [hm, if_true]
/-! ### digit -/
def cellsD (cs : List Int) : D := .lst (cs.map .int)
theorem digit_run (n : Nat) (cs : List Int) (i : Nat) (b m : Int) (hm : 0 < m ∧ m < 1000) : ∃ (i' : Nat) (b' : Int) (r : Nat), (r : Int) < m ∧
    callF T (n + 1) 2 [.val (cellsD cs), .io (.lst [.int i, .int b]), .val (.int m)] = .ret (.val (.int r)) [.un, .io (.lst [.int i', .int b']), .un] := by
  have h3 : divOk m = true := divOk_small hm.1 (by omega)
  have key : ∀ (b' : Int), ∃ (r : Nat), (r : Int) < m ∧ .int (b' % m) = D.int (r : Int) := fun b' => ⟨(b' % m).toNat, by
    have := Int.emod_nonneg b' (show m ≠ 0 by omega)
    have := Int.emod_lt_of_pos b' hm.1
    omega, by
    have := Int.emod_nonneg b' (show m ≠ 0 by omega)
    congr 1; omega⟩
  have m2 : ∀ z, mulOk 2 z = true := fun z => mulOk_l rfl
  have m2' : ∀ z, mulOk (-2) z = true := fun z => mulOk_l rfl
  have hl : biD .len [cellsD cs] = some (false, .int cs.length) := by unfold cellsD; rw [bi_len, List.length_map]
  rw [callF_at (show fnT 2 = some fd_law_digit from rfl) rfl]
  simp only [fd_law_digit, c_law_digit, List.length_cons, List.length_nil, List.replicate, List.cons_append, List.nil_append]
  have tail : ∀ (i' : Nat) (b' : Int) (s4 : Slot), (s4 = .un ∨ ∃ d, s4 = .val d) → ∃ (r : Nat), (r : Int) < m ∧
      finC [.val (cellsD cs), .io (.lst [.int i, .int b]), .val (.int m)] (evalSs T (callF T n) (.cons (.set 3 (.bin .Mod (.bi .int (.cons (.sub (.var 1) (.int 1)) (.nil))) (.var 2))) (.cons (.setsub 1 (.int 1) (.bin .FloorDiv (.sub (.var 1) (.int 1)) (.var 2))) (.cons (.ret (.var 3)) (.nil))))
        [.val (cellsD cs), .io (.lst [.int i', .int b']), .val (.int m), .un, s4]) = .ret (.val (.int r)) [.un, .io (.lst [.int i', .int (b' / m)]), .un] := fun i' b' s4 h4 => by
    obtain ⟨r, hr, er⟩ := key b'
    refine ⟨r, hr, ?_⟩
    simp only [sz0, sz1, sz2, sz3, sz4, sz5, sz6, sz7, sz8, sz9, sz10, sz11, sz12, sz13, sz14, e_var, e_non, e_bl, e_int, e_str, e_glo, e_bin, e_neg, e_inv, e_nt, e_cmp, e_cmp2, e_and, e_or, e_ite, e_tup, e_lst, e_sub, e_slc, e_att, e_ccon, e_call, e_new, e_isi, e_bi, e_bm, e_mth, e_lso, e_app, e_pop, e_popAt, e_comp, es_nil, es_cons, t_and, t_or, t_nt, t_var, t_cmp, t_cmp2, t_call, t_isi, t_bi, t_bin, t_att, t_mth, t_bl, src_of, src_range1, src_range2, src_enum, src_zip, src_rev, s_expr, s_set, s_hold, s_setsub, s_setatt, s_unpack, s_ite, s_for, s_ret, s_retN, s_pass, s_brk, s_cnt, s_never, ss_nil, ss_cons, b1_ok, b2_ok, bs_ok, bE_ok, bL_ok, bT_ok, bI_ok, sE_ok, sT_ok, sI_ok, seq_nx, seq_rt, fite_t, fite_f, gite_t, gite_f, fnot_e, gexpr_e, gret_e, fcon_e, rdc_v, rdc_o, rdc_b, rd_v, rd_o, rd_i, rd_l, m1_e, op1_e, m2_e, op2_e, mk_t, mk_f, okB_e, m2c_e, fcmp_e, m3_t, m3_f, mc2_e, fcmp2_e, cmp2_e, nt_e, neg_e, tru_bl, tru_int, tru_non, tru1_e, consO_e, rdcs_n, rdcs_c, bi1_e, mbi_e, nxO_e, toVal_v, toVal_o, toVal_b, mval_o, mval_v, toVals_n, toVals_c, tvc_e, mapd_e, gset_e, mset_e, ghold_o, ghold_v, asg_e, masg_u, masg_v, masg_o, gsub_e, fsub_e, gput_e, mput_e, mput2_e, mput3_e, fapp_e, app1_e, mapp_e, mapp2_e, mapp3_e, ownAt_e, mown_o, mown_i, isLst_e, mlst_e, varE_e, mvar_v, mvar_o, mvar_i, mvar_l, frng_e, mrng_e, mrng2_e, fof_e, mof_e, mof2_e, toSrc_v, toSrc_o, toSrc_b, msrc_o, msrc_l, items_l, items_t, ftup_e, flst_e, mtup_e, mlis_e, mtup2_e, fand_e, mand_t, mand_f, ret_v, ret_o, ret_b, mret_o, mret_ln, partR_t, partR_f, callG_e, mcall_e, mcall2_v, mcall2_o, mcall3_e, newG_e, mnew_e, mnew2_e, mnew3_e, give_n, give_c, gvc_e, gvm_e, give_v, mg1_e, give_rv, give_ro, give_rb, mgr_o, mgr_i, mgr_l, give_mo, give_mb, mgm_o, mgm_i, tb_n, tb_0, tb_i, tb_u, mtb_e, mtb2_e, fin_n, fin_r, mfin_e, mou_e, ou_n, ou_i, ou_v, ou_l, gatt_e, matt_e, matt2_e, matt3_e, getI0, getI1, setI0, setI1, omap_s, obind_s, nic_n, nic_i, bAdd, bSub, cLt, cLe, cGt, cGe, cEq, cNe, Bool.not_true, Bool.not_false, List.cons_append, List.nil_append, sz0, sub20, sub21, ix20, ix21, bi_int, bMod hm.1, bDiv h3, er, List.set]
  by_cases hb : b = 0
  · have d1 : decide (b = 0) = true := decide_eq_true hb
    by_cases hi : i < cs.length
    · have hg : sub2 (cellsD cs) (.int (i : Int)) = some (false, .int cs[i]) := by
        show (atI _ _).map _ = _
        rw [atI_nat (by simpa using hi)]; simp [hi]
      have d2 : decide ((i : Int) < (cs.length : Int)) = true := decide_eq_true (by omega)
      by_cases hn : cs[i] < 0
      · have d3 : decide (cs[i] < 0) = true := decide_eq_true hn
        obtain ⟨r, hr, er⟩ := tail (i + 1) (-2 * cs[i] - 1) (.val (.int cs[i])) (.inr ⟨_, rfl⟩)
        refine ⟨i + 1, (-2 * cs[i] - 1) / m, r, hr, ?_⟩
        rw [← er]
        simp only [sz0, sz1, sz2, sz3, sz4, sz5, sz6, sz7, sz8, sz9, sz10, sz11, sz12, sz13, sz14, e_var, e_non, e_bl, e_int, e_str, e_glo, e_bin, e_neg, e_inv, e_nt, e_cmp, e_cmp2, e_and, e_or, e_ite, e_tup, e_lst, e_sub, e_slc, e_att, e_ccon, e_call, e_new, e_isi, e_bi, e_bm, e_mth, e_lso, e_app, e_pop, e_popAt, e_comp, es_nil, es_cons, t_and, t_or, t_nt, t_var, t_cmp, t_cmp2, t_call, t_isi, t_bi, t_bin, t_att, t_mth, t_bl, src_of, src_range1, src_range2, src_enum, src_zip, src_rev, s_expr, s_set, s_hold, s_setsub, s_setatt, s_unpack, s_ite, s_for, s_ret, s_retN, s_pass, s_brk, s_cnt, s_never, ss_nil, ss_cons, b1_ok, b2_ok, bs_ok, bE_ok, bL_ok, bT_ok, bI_ok, sE_ok, sT_ok, sI_ok, seq_nx, seq_rt, fite_t, fite_f, gite_t, gite_f, fnot_e, gexpr_e, gret_e, fcon_e, rdc_v, rdc_o, rdc_b, rd_v, rd_o, rd_i, rd_l, m1_e, op1_e, m2_e, op2_e, mk_t, mk_f, okB_e, m2c_e, fcmp_e, m3_t, m3_f, mc2_e, fcmp2_e, cmp2_e, nt_e, neg_e, tru_bl, tru_int, tru_non, tru1_e, consO_e, rdcs_n, rdcs_c, bi1_e, mbi_e, nxO_e, toVal_v, toVal_o, toVal_b, mval_o, mval_v, toVals_n, toVals_c, tvc_e, mapd_e, gset_e, mset_e, ghold_o, ghold_v, asg_e, masg_u, masg_v, masg_o, gsub_e, fsub_e, gput_e, mput_e, mput2_e, mput3_e, fapp_e, app1_e, mapp_e, mapp2_e, mapp3_e, ownAt_e, mown_o, mown_i, isLst_e, mlst_e, varE_e, mvar_v, mvar_o, mvar_i, mvar_l, frng_e, mrng_e, mrng2_e, fof_e, mof_e, mof2_e, toSrc_v, toSrc_o, toSrc_b, msrc_o, msrc_l, items_l, items_t, ftup_e, flst_e, mtup_e, mlis_e, mtup2_e, fand_e, mand_t, mand_f, ret_v, ret_o, ret_b, mret_o, mret_ln, partR_t, partR_f, callG_e, mcall_e, mcall2_v, mcall2_o, mcall3_e, newG_e, mnew_e, mnew2_e, mnew3_e, give_n, give_c, gvc_e, gvm_e, give_v, mg1_e, give_rv, give_ro, give_rb, mgr_o, mgr_i, mgr_l, give_mo, give_mb, mgm_o, mgm_i, tb_n, tb_0, tb_i, tb_u, mtb_e, mtb2_e, fin_n, fin_r, mfin_e, mou_e, ou_n, ou_i, ou_v, ou_l, gatt_e, matt_e, matt2_e, matt3_e, getI0, getI1, setI0, setI1, omap_s, obind_s, nic_n, nic_i, bAdd, bSub, cLt, cLe, cGt, cGe, cEq, cNe, Bool.not_true, Bool.not_false, List.cons_append, List.nil_append, sub20, sub21, ix20, ix21, hl, d1, d2, d3, hg, bMul (m2 _), bMul (m2' _), List.set, Int.natCast_add, Int.natCast_one]
      · have d3 : decide (cs[i] < 0) = false := decide_eq_false hn
        obtain ⟨r, hr, er⟩ := tail (i + 1) (2 * cs[i]) (.val (.int cs[i])) (.inr ⟨_, rfl⟩)
        refine ⟨i + 1, (2 * cs[i]) / m, r, hr, ?_⟩
        rw [← er]
        simp only [sz0, sz1, sz2, sz3, sz4, sz5, sz6, sz7, sz8, sz9, sz10, sz11, sz12, sz13, sz14, e_var, e_non, e_bl, e_int, e_str, e_glo, e_bin, e_neg, e_inv, e_nt, e_cmp, e_cmp2, e_and, e_or, e_ite, e_tup, e_lst, e_sub, e_slc, e_att, e_ccon, e_call, e_new, e_isi, e_bi, e_bm, e_mth, e_lso, e_app, e_pop, e_popAt, e_comp, es_nil, es_cons, t_and, t_or, t_nt, t_var, t_cmp, t_cmp2, t_call, t_isi, t_bi, t_bin, t_att, t_mth, t_bl, src_of, src_range1, src_range2, src_enum, src_zip, src_rev, s_expr, s_set, s_hold, s_setsub, s_setatt, s_unpack, s_ite, s_for, s_ret, s_retN, s_pass, s_brk, s_cnt, s_never, ss_nil, ss_cons, b1_ok, b2_ok, bs_ok, bE_ok, bL_ok, bT_ok, bI_ok, sE_ok, sT_ok, sI_ok, seq_nx, seq_rt, fite_t, fite_f, gite_t, gite_f, fnot_e, gexpr_e, gret_e, fcon_e, rdc_v, rdc_o, rdc_b, rd_v, rd_o, rd_i, rd_l, m1_e, op1_e, m2_e, op2_e, mk_t, mk_f, okB_e, m2c_e, fcmp_e, m3_t, m3_f, mc2_e, fcmp2_e, cmp2_e, nt_e, neg_e, tru_bl, tru_int, tru_non, tru1_e, consO_e, rdcs_n, rdcs_c, bi1_e, mbi_e, nxO_e, toVal_v, toVal_o, toVal_b, mval_o, mval_v, toVals_n, toVals_c, tvc_e, mapd_e, gset_e, mset_e, ghold_o, ghold_v, asg_e, masg_u, masg_v, masg_o, gsub_e, fsub_e, gput_e, mput_e, mput2_e, mput3_e, fapp_e, app1_e, mapp_e, mapp2_e, mapp3_e, ownAt_e, mown_o, mown_i, isLst_e, mlst_e, varE_e, mvar_v, mvar_o, mvar_i, mvar_l, frng_e, mrng_e, mrng2_e, fof_e, mof_e, mof2_e, toSrc_v, toSrc_o, toSrc_b, msrc_o, msrc_l, items_l, items_t, ftup_e, flst_e, mtup_e, mlis_e, mtup2_e, fand_e, mand_t, mand_f, ret_v, ret_o, ret_b, mret_o, mret_ln, partR_t, partR_f, callG_e, mcall_e, mcall2_v, mcall2_o, mcall3_e, newG_e, mnew_e, mnew2_e, mnew3_e, give_n, give_c, gvc_e, gvm_e, give_v, mg1_e, give_rv, give_ro, give_rb, mgr_o, mgr_i, mgr_l, give_mo, give_mb, mgm_o, mgm_i, tb_n, tb_0, tb_i, tb_u, mtb_e, mtb2_e, fin_n, fin_r, mfin_e, mou_e, ou_n, ou_i, ou_v, ou_l, gatt_e, matt_e, matt2_e, matt3_e, getI0, getI1, setI0, setI1, omap_s, obind_s, nic_n, nic_i, bAdd, bSub, cLt, cLe, cGt, cGe, cEq, cNe, Bool.not_true, Bool.not_false, List.cons_append, List.nil_append, sub20, sub21, ix20, ix21, hl, d1, d2, d3, hg, bMul (m2 _), bMul (m2' _), List.set, Int.natCast_add, Int.natCast_one]
    · have d2 : decide ((i : Int) < (cs.length : Int)) = false := decide_eq_false (by omega)
      obtain ⟨r, hr, er⟩ := tail i b .un (.inl rfl)
      refine ⟨i, b / m, r, hr, ?_⟩
      rw [← er]
      simp only [sz0, sz1, sz2, sz3, sz4, sz5, sz6, sz7, sz8, sz9, sz10, sz11, sz12, sz13, sz14, e_var, e_non, e_bl, e_int, e_str, e_glo, e_bin, e_neg, e_inv, e_nt, e_cmp, e_cmp2, e_and, e_or, e_ite, e_tup, e_lst, e_sub, e_slc, e_att, e_ccon, e_call, e_new, e_isi, e_bi, e_bm, e_mth, e_lso, e_app, e_pop, e_popAt, e_comp, es_nil, es_cons, t_and, t_or, t_nt, t_var, t_cmp, t_cmp2, t_call, t_isi, t_bi, t_bin, t_att, t_mth, t_bl, src_of, src_range1, src_range2, src_enum, src_zip, src_rev, s_expr, s_set, s_hold, s_setsub, s_setatt, s_unpack, s_ite, s_for, s_ret, s_retN, s_pass, s_brk, s_cnt, s_never, ss_nil, ss_cons, b1_ok, b2_ok, bs_ok, bE_ok, bL_ok, bT_ok, bI_ok, sE_ok, sT_ok, sI_ok, seq_nx, seq_rt, fite_t, fite_f, gite_t, gite_f, fnot_e, gexpr_e, gret_e, fcon_e, rdc_v, rdc_o, rdc_b, rd_v, rd_o, rd_i, rd_l, m1_e, op1_e, m2_e, op2_e, mk_t, mk_f, okB_e, m2c_e, fcmp_e, m3_t, m3_f, mc2_e, fcmp2_e, cmp2_e, nt_e, neg_e, tru_bl, tru_int, tru_non, tru1_e, consO_e, rdcs_n, rdcs_c, bi1_e, mbi_e, nxO_e, toVal_v, toVal_o, toVal_b, mval_o, mval_v, toVals_n, toVals_c, tvc_e, mapd_e, gset_e, mset_e, ghold_o, ghold_v, asg_e, masg_u, masg_v, masg_o, gsub_e, fsub_e, gput_e, mput_e, mput2_e, mput3_e, fapp_e, app1_e, mapp_e, mapp2_e, mapp3_e, ownAt_e, mown_o, mown_i, isLst_e, mlst_e, varE_e, mvar_v, mvar_o, mvar_i, mvar_l, frng_e, mrng_e, mrng2_e, fof_e, mof_e, mof2_e, toSrc_v, toSrc_o, toSrc_b, msrc_o, msrc_l, items_l, items_t, ftup_e, flst_e, mtup_e, mlis_e, mtup2_e, fand_e, mand_t, mand_f, ret_v, ret_o, ret_b, mret_o, mret_ln, partR_t, partR_f, callG_e, mcall_e, mcall2_v, mcall2_o, mcall3_e, newG_e, mnew_e, mnew2_e, mnew3_e, give_n, give_c, gvc_e, gvm_e, give_v, mg1_e, give_rv, give_ro, give_rb, mgr_o, mgr_i, mgr_l, give_mo, give_mb, mgm_o, mgm_i, tb_n, tb_0, tb_i, tb_u, mtb_e, mtb2_e, fin_n, fin_r, mfin_e, mou_e, ou_n, ou_i, ou_v, ou_l, gatt_e, matt_e, matt2_e, matt3_e, getI0, getI1, setI0, setI1, omap_s, obind_s, nic_n, nic_i, bAdd, bSub, cLt, cLe, cGt, cGe, cEq, cNe, Bool.not_true, Bool.not_false, List.cons_append, List.nil_append, sub20, sub21, hl, d1, d2]
  · have d1 : decide (b = 0) = false := decide_eq_false hb
    obtain ⟨r, hr, er⟩ := tail i b .un (.inl rfl)
    refine ⟨i, b / m, r, hr, ?_⟩
    rw [← er]
    simp only [sz0, sz1, sz2, sz3, sz4, sz5, sz6, sz7, sz8, sz9, sz10, sz11, sz12, sz13, sz14, e_var, e_non, e_bl, e_int, e_str, e_glo, e_bin, e_neg, e_inv, e_nt, e_cmp, e_cmp2, e_and, e_or, e_ite, e_tup, e_lst, e_sub, e_slc, e_att, e_ccon, e_call, e_new, e_isi, e_bi, e_bm, e_mth, e_lso, e_app, e_pop, e_popAt, e_comp, es_nil, es_cons, t_and, t_or, t_nt, t_var, t_cmp, t_cmp2, t_call, t_isi, t_bi, t_bin, t_att, t_mth, t_bl, src_of, src_range1, src_range2, src_enum, src_zip, src_rev, s_expr, s_set, s_hold, s_setsub, s_setatt, s_unpack, s_ite, s_for, s_ret, s_retN, s_pass, s_brk, s_cnt, s_never, ss_nil, ss_cons, b1_ok, b2_ok, bs_ok, bE_ok, bL_ok, bT_ok, bI_ok, sE_ok, sT_ok, sI_ok, seq_nx, seq_rt, fite_t, fite_f, gite_t, gite_f, fnot_e, gexpr_e, gret_e, fcon_e, rdc_v, rdc_o, rdc_b, rd_v, rd_o, rd_i, rd_l, m1_e, op1_e, m2_e, op2_e, mk_t, mk_f, okB_e, m2c_e, fcmp_e, m3_t, m3_f, mc2_e, fcmp2_e, cmp2_e, nt_e, neg_e, tru_bl, tru_int, tru_non, tru1_e, consO_e, rdcs_n, rdcs_c, bi1_e, mbi_e, nxO_e, toVal_v, toVal_o, toVal_b, mval_o, mval_v, toVals_n, toVals_c, tvc_e, mapd_e, gset_e, mset_e, ghold_o, ghold_v, asg_e, masg_u, masg_v, masg_o, gsub_e, fsub_e, gput_e, mput_e, mput2_e, mput3_e, fapp_e, app1_e, mapp_e, mapp2_e, mapp3_e, ownAt_e, mown_o, mown_i, isLst_e, mlst_e, varE_e, mvar_v, mvar_o, mvar_i, mvar_l, frng_e, mrng_e, mrng2_e, fof_e, mof_e, mof2_e, toSrc_v, toSrc_o, toSrc_b, msrc_o, msrc_l, items_l, items_t, ftup_e, flst_e, mtup_e, mlis_e, mtup2_e, fand_e, mand_t, mand_f, ret_v, ret_o, ret_b, mret_o, mret_ln, partR_t, partR_f, callG_e, mcall_e, mcall2_v, mcall2_o, mcall3_e, newG_e, mnew_e, mnew2_e, mnew3_e, give_n, give_c, gvc_e, gvm_e, give_v, mg1_e, give_rv, give_ro, give_rb, mgr_o, mgr_i, mgr_l, give_mo, give_mb, mgm_o, mgm_i, tb_n, tb_0, tb_i, tb_u, mtb_e, mtb2_e, fin_n, fin_r, mfin_e, mou_e, ou_n, ou_i, ou_v, ou_l, gatt_e, matt_e, matt2_e, matt3_e, getI0, getI1, setI0, setI1, omap_s, obind_s, nic_n, nic_i, bAdd, bSub, cLt, cLe, cGt, cGe, cEq, cNe, Bool.not_true, Bool.not_false, List.cons_append, List.nil_append, sub20, sub21, hl, d1]

/-! ### push -/
def pushG (g : Nat → Int) (F mask : Nat) (v : Int) (k c : Nat) : Int := if c &&& mask = mask ∧ c < k ∧ g c < v then v else if (F - c) &&& mask = mask ∧ F - c < k ∧ g (F - c) < v then -v else g c
/-- the rest of a mask -/
theorem rest_bit {h m j : Nat} (hm : m < 2 ^ h) : (2 ^ h - 1 - m).testBit j = (decide (j < h) && !m.testBit j) := by
  rw [show 2 ^ h - 1 - m = 2 ^ h - (m + 1) by omega, Nat.testBit_two_pow_sub_succ hm]
theorem sub_rest {h m c : Nat} (hc : c < 2 ^ h) (hm : 0 < m) (h1 : c &&& m = m) (h2 : (2 ^ h - 1 - c) &&& m = m) : False := by
  obtain ⟨j, hj⟩ := Nat.exists_testBit_of_ne_zero (x := m) (by omega)
  have a1 := congrArg (fun x => x.testBit j) h1
  have a2 := congrArg (fun x => x.testBit j) h2
  simp only [Nat.testBit_and, hj, rest_bit hc, Bool.and_true] at a1 a2
  rw [a1] at a2
  simp at a2
theorem pushG_same {g : Nat → Int} {F mask : Nat} {v : Int} {i c : Nat} (h1 : c ≠ i ∨ ¬ (i &&& mask = mask ∧ g i < v)) (h2 : F - c ≠ i ∨ ¬ (i &&& mask = mask ∧ g i < v)) : pushG g F mask v i c = pushG g F mask v (i + 1) c := by
  have a : (c &&& mask = mask ∧ c < i ∧ g c < v) ↔ (c &&& mask = mask ∧ c < i + 1 ∧ g c < v) := by
    constructor
    · exact fun z => ⟨z.1, by omega, z.2.2⟩
    · intro z
      refine ⟨z.1, ?_, z.2.2⟩
      rcases h1 with h1 | h1
      · omega
      · by_cases e : c = i
        · exact absurd ⟨e ▸ z.1, e ▸ z.2.2⟩ h1
        · omega
  have b : ((F - c) &&& mask = mask ∧ F - c < i ∧ g (F - c) < v) ↔ ((F - c) &&& mask = mask ∧ F - c < i + 1 ∧ g (F - c) < v) := by
    constructor
    · exact fun z => ⟨z.1, by omega, z.2.2⟩
    · intro z
      refine ⟨z.1, ?_, z.2.2⟩
      rcases h2 with h2 | h2
      · omega
      · by_cases e : F - c = i
        · exact absurd ⟨e ▸ z.1, e ▸ z.2.2⟩ h2
        · omega
  unfold pushG
  simp only [a, b]
theorem push_run (n h : Nat) (g : Nat → Int) (mask : Nat) (v : Int) (h1 : 1 ≤ h) (h7 : h ≤ 7) (hm : 0 < mask) : callF T (n + 1) 7 [.io (.lst (tabI g (2 ^ h))), .val (.int (mask : Int)), .val (.int v)] =
    .ret (.val .non) [.io (.lst (tabI (pushG g (2 ^ h - 1) mask v (2 ^ h)) (2 ^ h))), .un, .un] := by
  have hp : 2 ≤ 2 ^ h := Nat.le_trans (by decide) (Nat.pow_le_pow_right (by decide : 0 < 2) h1)
  have hev : 2 ^ h % 2 = 0 := by
    obtain ⟨k, rfl⟩ : ∃ k, h = k + 1 := ⟨h - 1, by omega⟩
    rw [Nat.pow_succ]; omega
  have e1 : ((2 ^ h : Nat) : Int) - 1 + 1 = ((2 ^ h : Nat) : Int) := by omega
  rw [callF_at (show fnT 7 = some fd_law_push from rfl) rfl]
  simp only [fd_law_push, c_law_push, List.length_cons, List.length_nil, List.replicate, List.cons_append, List.nil_append]
  simp only [sz0, sz1, sz2, sz3, sz4, sz5, sz6, sz7, sz8, sz9, sz10, sz11, sz12, sz13, sz14, e_var, e_non, e_bl, e_int, e_str, e_glo, e_bin, e_neg, e_inv, e_nt, e_cmp, e_cmp2, e_and, e_or, e_ite, e_tup, e_lst, e_sub, e_slc, e_att, e_ccon, e_call, e_new, e_isi, e_bi, e_bm, e_mth, e_lso, e_app, e_pop, e_popAt, e_comp, es_nil, es_cons, t_and, t_or, t_nt, t_var, t_cmp, t_cmp2, t_call, t_isi, t_bi, t_bin, t_att, t_mth, t_bl, src_of, src_range1, src_range2, src_enum, src_zip, src_rev, s_expr, s_set, s_hold, s_setsub, s_setatt, s_unpack, s_ite, s_for, s_ret, s_retN, s_pass, s_brk, s_cnt, s_never, ss_nil, ss_cons, b1_ok, b2_ok, bs_ok, bE_ok, bL_ok, bT_ok, bI_ok, sE_ok, sT_ok, sI_ok, seq_nx, seq_rt, fite_t, fite_f, gite_t, gite_f, fnot_e, gexpr_e, gret_e, fcon_e, rdc_v, rdc_o, rdc_b, rd_v, rd_o, rd_i, rd_l, m1_e, op1_e, m2_e, op2_e, mk_t, mk_f, okB_e, m2c_e, fcmp_e, m3_t, m3_f, mc2_e, fcmp2_e, cmp2_e, nt_e, neg_e, tru_bl, tru_int, tru_non, tru1_e, consO_e, rdcs_n, rdcs_c, bi1_e, mbi_e, nxO_e, toVal_v, toVal_o, toVal_b, mval_o, mval_v, toVals_n, toVals_c, tvc_e, mapd_e, gset_e, mset_e, ghold_o, ghold_v, asg_e, masg_u, masg_v, masg_o, gsub_e, fsub_e, gput_e, mput_e, mput2_e, mput3_e, fapp_e, app1_e, mapp_e, mapp2_e, mapp3_e, ownAt_e, mown_o, mown_i, isLst_e, mlst_e, varE_e, mvar_v, mvar_o, mvar_i, mvar_l, frng_e, mrng_e, mrng2_e, fof_e, mof_e, mof2_e, toSrc_v, toSrc_o, toSrc_b, msrc_o, msrc_l, items_l, items_t, ftup_e, flst_e, mtup_e, mlis_e, mtup2_e, fand_e, mand_t, mand_f, ret_v, ret_o, ret_b, mret_o, mret_ln, partR_t, partR_f, callG_e, mcall_e, mcall2_v, mcall2_o, mcall3_e, newG_e, mnew_e, mnew2_e, mnew3_e, give_n, give_c, gvc_e, gvm_e, give_v, mg1_e, give_rv, give_ro, give_rb, mgr_o, mgr_i, mgr_l, give_mo, give_mb, mgm_o, mgm_i, tb_n, tb_0, tb_i, tb_u, mtb_e, mtb2_e, fin_n, fin_r, mfin_e, mou_e, ou_n, ou_i, ou_v, ou_l, gatt_e, matt_e, matt2_e, matt3_e, getI0, getI1, setI0, setI1, omap_s, obind_s, nic_n, nic_i, bAdd, bSub, cLt, cLe, cGt, cGe, cEq, cNe, Bool.not_true, Bool.not_false, List.cons_append, List.nil_append, bi_lenT, e1, rngOk_pow h7, Int.toNat_natCast]
  generalize hL : forB _ _ _ _ _ _ = L
  obtain ⟨ρ', e, s, hs, eρ⟩ : ∃ ρ', L = .nx ρ' ∧ ∃ s, FreeS s ∧ ρ' = [.io (.lst (tabI (pushG g (2 ^ h - 1) mask v (2 ^ h)) (2 ^ h))), .val (.int (mask : Int)), .val (.int v), .val (.int (((2 ^ h : Nat) : Int) - 1)), s] := by
    rw [← hL]
    refine for0 (fun i ρ => ∃ s, FreeS s ∧ ρ = [.io (.lst (tabI (pushG g (2 ^ h - 1) mask v i) (2 ^ h))), .val (.int (mask : Int)), .val (.int v), .val (.int (((2 ^ h : Nat) : Int) - 1)), s]) ⟨.un, FreeS.un, ?_⟩ fun i ρ hi ⟨s, hs, e⟩ => ?_
    · rw [show tabI (pushG g (2 ^ h - 1) mask v 0) (2 ^ h) = tabI g (2 ^ h) from tab_congr fun i hi => by
        unfold pushG
        rw [if_neg (by omega), if_neg (by omega)]]
    · subst e
      have hgi : i &&& mask = mask → pushG g (2 ^ h - 1) mask v i i = g i := fun q => by
        unfold pushG
        rw [if_neg (by omega), if_neg (fun z => sub_rest hi hm q z.1)]
      have ec : ((2 ^ h : Nat) : Int) - 1 - (i : Int) = ((2 ^ h - 1 - i : Nat) : Int) := by omega
      by_cases c1 : i &&& mask = mask
      · have d1 : decide (((i &&& mask : Nat) : Int) = (mask : Int)) = true := by rw [c1]; exact decide_eq_true rfl
        by_cases c2 : g i < v
        · have d2 : decide (g i < v) = true := decide_eq_true c2
          refine ⟨_, _, asg_free rfl hs, ?_, .val (.int (i : Int)), FreeS.val, rfl⟩
          simp only [sz0, sz1, sz2, sz3, sz4, sz5, sz6, sz7, sz8, sz9, sz10, sz11, sz12, sz13, sz14, e_var, e_non, e_bl, e_int, e_str, e_glo, e_bin, e_neg, e_inv, e_nt, e_cmp, e_cmp2, e_and, e_or, e_ite, e_tup, e_lst, e_sub, e_slc, e_att, e_ccon, e_call, e_new, e_isi, e_bi, e_bm, e_mth, e_lso, e_app, e_pop, e_popAt, e_comp, es_nil, es_cons, t_and, t_or, t_nt, t_var, t_cmp, t_cmp2, t_call, t_isi, t_bi, t_bin, t_att, t_mth, t_bl, src_of, src_range1, src_range2, src_enum, src_zip, src_rev, s_expr, s_set, s_hold, s_setsub, s_setatt, s_unpack, s_ite, s_for, s_ret, s_retN, s_pass, s_brk, s_cnt, s_never, ss_nil, ss_cons, b1_ok, b2_ok, bs_ok, bE_ok, bL_ok, bT_ok, bI_ok, sE_ok, sT_ok, sI_ok, seq_nx, seq_rt, fite_t, fite_f, gite_t, gite_f, fnot_e, gexpr_e, gret_e, fcon_e, rdc_v, rdc_o, rdc_b, rd_v, rd_o, rd_i, rd_l, m1_e, op1_e, m2_e, op2_e, mk_t, mk_f, okB_e, m2c_e, fcmp_e, m3_t, m3_f, mc2_e, fcmp2_e, cmp2_e, nt_e, neg_e, tru_bl, tru_int, tru_non, tru1_e, consO_e, rdcs_n, rdcs_c, bi1_e, mbi_e, nxO_e, toVal_v, toVal_o, toVal_b, mval_o, mval_v, toVals_n, toVals_c, tvc_e, mapd_e, gset_e, mset_e, ghold_o, ghold_v, asg_e, masg_u, masg_v, masg_o, gsub_e, fsub_e, gput_e, mput_e, mput2_e, mput3_e, fapp_e, app1_e, mapp_e, mapp2_e, mapp3_e, ownAt_e, mown_o, mown_i, isLst_e, mlst_e, varE_e, mvar_v, mvar_o, mvar_i, mvar_l, frng_e, mrng_e, mrng2_e, fof_e, mof_e, mof2_e, toSrc_v, toSrc_o, toSrc_b, msrc_o, msrc_l, items_l, items_t, ftup_e, flst_e, mtup_e, mlis_e, mtup2_e, fand_e, mand_t, mand_f, ret_v, ret_o, ret_b, mret_o, mret_ln, partR_t, partR_f, callG_e, mcall_e, mcall2_v, mcall2_o, mcall3_e, newG_e, mnew_e, mnew2_e, mnew3_e, give_n, give_c, gvc_e, gvm_e, give_v, mg1_e, give_rv, give_ro, give_rb, mgr_o, mgr_i, mgr_l, give_mo, give_mb, mgm_o, mgm_i, tb_n, tb_0, tb_i, tb_u, mtb_e, mtb2_e, fin_n, fin_r, mfin_e, mou_e, ou_n, ou_i, ou_v, ou_l, gatt_e, matt_e, matt2_e, matt3_e, getI0, getI1, setI0, setI1, omap_s, obind_s, nic_n, nic_i, bAdd, bSub, cLt, cLe, cGt, cGe, cEq, cNe, Bool.not_true, Bool.not_false, List.cons_append, List.nil_append, bAnd, sub2_tab hi, d1, d2, hgi c1, ec, ixN_tab hi, tab_set, ixN_tab (show 2 ^ h - 1 - i < 2 ^ h by omega)]
          rw [tab_congr fun j hj => ?_]
          unfold pushG
          by_cases j1 : j = 2 ^ h - 1 - i
          · subst j1
            have : 2 ^ h - 1 - (2 ^ h - 1 - i) = i := by omega
            rw [if_pos rfl, if_neg (fun z => sub_rest hi hm c1 z.1), if_pos (by rw [this]; exact ⟨c1, by omega, c2⟩)]
          · rw [if_neg j1]
            by_cases j2 : j = i
            · subst j2
              rw [if_pos rfl, if_pos ⟨c1, by omega, c2⟩]
            · rw [if_neg j2]
              have := pushG_same (g := g) (F := 2 ^ h - 1) (mask := mask) (v := v) (i := i) (c := j) (.inl j2) (.inl (by omega))
              unfold pushG at this
              rw [this]
        · have d2 : decide (g i < v) = false := decide_eq_false c2
          refine ⟨_, _, asg_free rfl hs, ?_, .val (.int (i : Int)), FreeS.val, rfl⟩
          simp only [sz0, sz1, sz2, sz3, sz4, sz5, sz6, sz7, sz8, sz9, sz10, sz11, sz12, sz13, sz14, e_var, e_non, e_bl, e_int, e_str, e_glo, e_bin, e_neg, e_inv, e_nt, e_cmp, e_cmp2, e_and, e_or, e_ite, e_tup, e_lst, e_sub, e_slc, e_att, e_ccon, e_call, e_new, e_isi, e_bi, e_bm, e_mth, e_lso, e_app, e_pop, e_popAt, e_comp, es_nil, es_cons, t_and, t_or, t_nt, t_var, t_cmp, t_cmp2, t_call, t_isi, t_bi, t_bin, t_att, t_mth, t_bl, src_of, src_range1, src_range2, src_enum, src_zip, src_rev, s_expr, s_set, s_hold, s_setsub, s_setatt, s_unpack, s_ite, s_for, s_ret, s_retN, s_pass, s_brk, s_cnt, s_never, ss_nil, ss_cons, b1_ok, b2_ok, bs_ok, bE_ok, bL_ok, bT_ok, bI_ok, sE_ok, sT_ok, sI_ok, seq_nx, seq_rt, fite_t, fite_f, gite_t, gite_f, fnot_e, gexpr_e, gret_e, fcon_e, rdc_v, rdc_o, rdc_b, rd_v, rd_o, rd_i, rd_l, m1_e, op1_e, m2_e, op2_e, mk_t, mk_f, okB_e, m2c_e, fcmp_e, m3_t, m3_f, mc2_e, fcmp2_e, cmp2_e, nt_e, neg_e, tru_bl, tru_int, tru_non, tru1_e, consO_e, rdcs_n, rdcs_c, bi1_e, mbi_e, nxO_e, toVal_v, toVal_o, toVal_b, mval_o, mval_v, toVals_n, toVals_c, tvc_e, mapd_e, gset_e, mset_e, ghold_o, ghold_v, asg_e, masg_u, masg_v, masg_o, gsub_e, fsub_e, gput_e, mput_e, mput2_e, mput3_e, fapp_e, app1_e, mapp_e, mapp2_e, mapp3_e, ownAt_e, mown_o, mown_i, isLst_e, mlst_e, varE_e, mvar_v, mvar_o, mvar_i, mvar_l, frng_e, mrng_e, mrng2_e, fof_e, mof_e, mof2_e, toSrc_v, toSrc_o, toSrc_b, msrc_o, msrc_l, items_l, items_t, ftup_e, flst_e, mtup_e, mlis_e, mtup2_e, fand_e, mand_t, mand_f, ret_v, ret_o, ret_b, mret_o, mret_ln, partR_t, partR_f, callG_e, mcall_e, mcall2_v, mcall2_o, mcall3_e, newG_e, mnew_e, mnew2_e, mnew3_e, give_n, give_c, gvc_e, gvm_e, give_v, mg1_e, give_rv, give_ro, give_rb, mgr_o, mgr_i, mgr_l, give_mo, give_mb, mgm_o, mgm_i, tb_n, tb_0, tb_i, tb_u, mtb_e, mtb2_e, fin_n, fin_r, mfin_e, mou_e, ou_n, ou_i, ou_v, ou_l, gatt_e, matt_e, matt2_e, matt3_e, getI0, getI1, setI0, setI1, omap_s, obind_s, nic_n, nic_i, bAdd, bSub, cLt, cLe, cGt, cGe, cEq, cNe, Bool.not_true, Bool.not_false, List.cons_append, List.nil_append, bAnd, sub2_tab hi, d1, d2, hgi c1]
          rw [show tabI (pushG g (2 ^ h - 1) mask v i) (2 ^ h) = tabI (pushG g (2 ^ h - 1) mask v (i + 1)) (2 ^ h) from tab_congr fun j hj => congrArg D.int (pushG_same (.inr fun z => c2 z.2) (.inr fun z => c2 z.2))]
      · have d1 : decide (((i &&& mask : Nat) : Int) = (mask : Int)) = false := decide_eq_false (by omega)
        refine ⟨_, _, asg_free rfl hs, ?_, .val (.int (i : Int)), FreeS.val, rfl⟩
        simp only [sz0, sz1, sz2, sz3, sz4, sz5, sz6, sz7, sz8, sz9, sz10, sz11, sz12, sz13, sz14, e_var, e_non, e_bl, e_int, e_str, e_glo, e_bin, e_neg, e_inv, e_nt, e_cmp, e_cmp2, e_and, e_or, e_ite, e_tup, e_lst, e_sub, e_slc, e_att, e_ccon, e_call, e_new, e_isi, e_bi, e_bm, e_mth, e_lso, e_app, e_pop, e_popAt, e_comp, es_nil, es_cons, t_and, t_or, t_nt, t_var, t_cmp, t_cmp2, t_call, t_isi, t_bi, t_bin, t_att, t_mth, t_bl, src_of, src_range1, src_range2, src_enum, src_zip, src_rev, s_expr, s_set, s_hold, s_setsub, s_setatt, s_unpack, s_ite, s_for, s_ret, s_retN, s_pass, s_brk, s_cnt, s_never, ss_nil, ss_cons, b1_ok, b2_ok, bs_ok, bE_ok, bL_ok, bT_ok, bI_ok, sE_ok, sT_ok, sI_ok, seq_nx, seq_rt, fite_t, fite_f, gite_t, gite_f, fnot_e, gexpr_e, gret_e, fcon_e, rdc_v, rdc_o, rdc_b, rd_v, rd_o, rd_i, rd_l, m1_e, op1_e, m2_e, op2_e, mk_t, mk_f, okB_e, m2c_e, fcmp_e, m3_t, m3_f, mc2_e, fcmp2_e, cmp2_e, nt_e, neg_e, tru_bl, tru_int, tru_non, tru1_e, consO_e, rdcs_n, rdcs_c, bi1_e, mbi_e, nxO_e, toVal_v, toVal_o, toVal_b, mval_o, mval_v, toVals_n, toVals_c, tvc_e, mapd_e, gset_e, mset_e, ghold_o, ghold_v, asg_e, masg_u, masg_v, masg_o, gsub_e, fsub_e, gput_e, mput_e, mput2_e, mput3_e, fapp_e, app1_e, mapp_e, mapp2_e, mapp3_e, ownAt_e, mown_o, mown_i, isLst_e, mlst_e, varE_e, mvar_v, mvar_o, mvar_i, mvar_l, frng_e, mrng_e, mrng2_e, fof_e, mof_e, mof2_e, toSrc_v, toSrc_o, toSrc_b, msrc_o, msrc_l, items_l, items_t, ftup_e, flst_e, mtup_e, mlis_e, mtup2_e, fand_e, mand_t, mand_f, ret_v, ret_o, ret_b, mret_o, mret_ln, partR_t, partR_f, callG_e, mcall_e, mcall2_v, mcall2_o, mcall3_e, newG_e, mnew_e, mnew2_e, mnew3_e, give_n, give_c, gvc_e, gvm_e, give_v, mg1_e, give_rv, give_ro, give_rb, mgr_o, mgr_i, mgr_l, give_mo, give_mb, mgm_o, mgm_i, tb_n, tb_0, tb_i, tb_u, mtb_e, mtb2_e, fin_n, fin_r, mfin_e, mou_e, ou_n, ou_i, ou_v, ou_l, gatt_e, matt_e, matt2_e, matt3_e, getI0, getI1, setI0, setI1, omap_s, obind_s, nic_n, nic_i, bAdd, bSub, cLt, cLe, cGt, cGe, cEq, cNe, Bool.not_true, Bool.not_false, List.cons_append, List.nil_append, bAnd, d1]
        rw [show tabI (pushG g (2 ^ h - 1) mask v i) (2 ^ h) = tabI (pushG g (2 ^ h - 1) mask v (i + 1)) (2 ^ h) from tab_congr fun j hj => congrArg D.int (pushG_same (.inr fun z => c1 z.1) (.inr fun z => c1 z.1))]
  subst e eρ
  simp only [sz0, sz0, sz1, sz2, sz3, sz4, sz5, sz6, sz7, sz8, sz9, sz10, sz11, sz12, sz13, sz14, e_var, e_non, e_bl, e_int, e_str, e_glo, e_bin, e_neg, e_inv, e_nt, e_cmp, e_cmp2, e_and, e_or, e_ite, e_tup, e_lst, e_sub, e_slc, e_att, e_ccon, e_call, e_new, e_isi, e_bi, e_bm, e_mth, e_lso, e_app, e_pop, e_popAt, e_comp, es_nil, es_cons, t_and, t_or, t_nt, t_var, t_cmp, t_cmp2, t_call, t_isi, t_bi, t_bin, t_att, t_mth, t_bl, src_of, src_range1, src_range2, src_enum, src_zip, src_rev, s_expr, s_set, s_hold, s_setsub, s_setatt, s_unpack, s_ite, s_for, s_ret, s_retN, s_pass, s_brk, s_cnt, s_never, ss_nil, ss_cons, b1_ok, b2_ok, bs_ok, bE_ok, bL_ok, bT_ok, bI_ok, sE_ok, sT_ok, sI_ok, seq_nx, seq_rt, fite_t, fite_f, gite_t, gite_f, fnot_e, gexpr_e, gret_e, fcon_e, rdc_v, rdc_o, rdc_b, rd_v, rd_o, rd_i, rd_l, m1_e, op1_e, m2_e, op2_e, mk_t, mk_f, okB_e, m2c_e, fcmp_e, m3_t, m3_f, mc2_e, fcmp2_e, cmp2_e, nt_e, neg_e, tru_bl, tru_int, tru_non, tru1_e, consO_e, rdcs_n, rdcs_c, bi1_e, mbi_e, nxO_e, toVal_v, toVal_o, toVal_b, mval_o, mval_v, toVals_n, toVals_c, tvc_e, mapd_e, gset_e, mset_e, ghold_o, ghold_v, asg_e, masg_u, masg_v, masg_o, gsub_e, fsub_e, gput_e, mput_e, mput2_e, mput3_e, fapp_e, app1_e, mapp_e, mapp2_e, mapp3_e, ownAt_e, mown_o, mown_i, isLst_e, mlst_e, varE_e, mvar_v, mvar_o, mvar_i, mvar_l, frng_e, mrng_e, mrng2_e, fof_e, mof_e, mof2_e, toSrc_v, toSrc_o, toSrc_b, msrc_o, msrc_l, items_l, items_t, ftup_e, flst_e, mtup_e, mlis_e, mtup2_e, fand_e, mand_t, mand_f, ret_v, ret_o, ret_b, mret_o, mret_ln, partR_t, partR_f, callG_e, mcall_e, mcall2_v, mcall2_o, mcall3_e, newG_e, mnew_e, mnew2_e, mnew3_e, give_n, give_c, gvc_e, gvm_e, give_v, mg1_e, give_rv, give_ro, give_rb, mgr_o, mgr_i, mgr_l, give_mo, give_mb, mgm_o, mgm_i, tb_n, tb_0, tb_i, tb_u, mtb_e, mtb2_e, fin_n, fin_r, mfin_e, mou_e, ou_n, ou_i, ou_v, ou_l, gatt_e, matt_e, matt2_e, matt3_e, getI0, getI1, setI0, setI1, omap_s, obind_s, nic_n, nic_i, bAdd, bSub, cLt, cLe, cGt, cGe, cEq, cNe, Bool.not_true, Bool.not_false, List.cons_append, List.nil_append]
end Wf.L10

namespace Wf.L10
open PySem PySem.Spec PyProof.Rows L2 Wf
/-! ### what makes a scale -/
structure Nums (h : Nat) (g : Nat → Int) (B : Int) : Prop where
  opp : ∀ m, m < 2 ^ h → g (2 ^ h - 1 - m) = -g m
  rise : ∀ m j, m < 2 ^ h → j < h → g m ≤ g (m ||| 2 ^ j)
  bd : ∀ m, m < 2 ^ h → -B ≤ g m ∧ g m ≤ B
theorem or_lt {h m j : Nat} (hm : m < 2 ^ h) (hj : j < h) : m ||| 2 ^ j < 2 ^ h := Nat.or_lt_two_pow hm (Nat.pow_lt_pow_right (by decide) hj)
theorem sub_iff {c m : Nat} : c &&& m = m ↔ ∀ i, m.testBit i = true → c.testBit i = true := by
  constructor
  · intro h i hi
    have := congrArg (fun x => x.testBit i) h
    simp only [Nat.testBit_and, hi, Bool.and_true] at this
    exact this
  · intro h
    apply Nat.eq_of_testBit_eq
    intro i
    rw [Nat.testBit_and]
    by_cases e : m.testBit i = true
    · rw [h i e, e]; rfl
    · simp at e; rw [e]; simp
theorem or_bit {m j i : Nat} (h : m.testBit i = true) : (m ||| 2 ^ j).testBit i = true := by rw [Nat.testBit_or, h]; rfl
theorem push_nums {h : Nat} {g : Nat → Int} {B v : Int} {mask : Nat} (N : Nums h g B) (hv : -B ≤ v ∧ v ≤ B) (hm : 0 < mask) : Nums h (pushG g (2 ^ h - 1) mask v (2 ^ h)) B := by
  have dis : ∀ c, c < 2 ^ h → c &&& mask = mask → (2 ^ h - 1 - c) &&& mask = mask → False := fun c hc => sub_rest hc hm
  have back : ∀ c, c < 2 ^ h → 2 ^ h - 1 - (2 ^ h - 1 - c) = c := fun c hc => by omega
  have frm : ∀ c, c < 2 ^ h → (c &&& mask = mask ∧ ¬ ((2 ^ h - 1 - c) &&& mask = mask) ∧ pushG g (2 ^ h - 1) mask v (2 ^ h) c = max (g c) v) ∨
      (¬ (c &&& mask = mask) ∧ (2 ^ h - 1 - c) &&& mask = mask ∧ pushG g (2 ^ h - 1) mask v (2 ^ h) c = min (g c) (-v)) ∨ (¬ (c &&& mask = mask) ∧ ¬ ((2 ^ h - 1 - c) &&& mask = mask) ∧ pushG g (2 ^ h - 1) mask v (2 ^ h) c = g c) := fun c hc => by
    have o := N.opp c hc
    have l : 2 ^ h - 1 - c < 2 ^ h := by omega
    by_cases a : c &&& mask = mask
    · have nb : ¬ ((2 ^ h - 1 - c) &&& mask = mask) := dis c hc a
      refine .inl ⟨a, nb, ?_⟩
      unfold pushG
      by_cases q : g c < v
      · rw [if_pos ⟨a, hc, q⟩]; omega
      · rw [if_neg (fun z => q z.2.2), if_neg (fun z => nb z.1)]; omega
    · by_cases b : (2 ^ h - 1 - c) &&& mask = mask
      · refine .inr (.inl ⟨a, b, ?_⟩)
        unfold pushG
        rw [if_neg (fun z => a z.1)]
        by_cases q : g (2 ^ h - 1 - c) < v
        · rw [if_pos ⟨b, l, q⟩]; omega
        · rw [if_neg (fun z => q z.2.2)]; omega
      · refine .inr (.inr ⟨a, b, ?_⟩)
        unfold pushG
        rw [if_neg (fun z => a z.1), if_neg (fun z => b z.1)]
  refine ⟨fun m hm => ?_, fun m j hm hj => ?_, fun m hm => ?_⟩
  · have o := N.opp m hm
    have l : 2 ^ h - 1 - m < 2 ^ h := by omega
    have f1 := frm m hm
    have f2 := frm _ l
    rw [back m hm] at f2
    rcases f1 with ⟨a1, a2, a3⟩ | ⟨a1, a2, a3⟩ | ⟨a1, a2, a3⟩ <;> rcases f2 with ⟨b1, b2, b3⟩ | ⟨b1, b2, b3⟩ | ⟨b1, b2, b3⟩ <;> rw [a3, b3] <;> first | omega | (exfalso; first | exact a1 b2 | exact a2 b1 | exact b1 a2 | exact b2 a1)
  · have l := or_lt hm hj
    have r := N.rise m j hm hj
    have f1 := frm m hm
    have f2 := frm _ l
    have s1 : m &&& mask = mask → (m ||| 2 ^ j) &&& mask = mask := fun q => sub_iff.mpr fun i hi => or_bit (sub_iff.mp q i hi)
    have s2 : (2 ^ h - 1 - (m ||| 2 ^ j)) &&& mask = mask → (2 ^ h - 1 - m) &&& mask = mask := fun q => sub_iff.mpr fun i hi => by
      have := sub_iff.mp q i hi
      rw [rest_bit l] at this
      rw [rest_bit hm]
      simp only [Bool.and_eq_true, Bool.not_eq_true', decide_eq_true_eq] at this ⊢
      refine ⟨this.1, ?_⟩
      cases e : m.testBit i with
      | false => rfl
      | true => rw [or_bit e] at this; exact this.2
    rcases f1 with ⟨a1, a2, a3⟩ | ⟨a1, a2, a3⟩ | ⟨a1, a2, a3⟩ <;> rcases f2 with ⟨b1, b2, b3⟩ | ⟨b1, b2, b3⟩ | ⟨b1, b2, b3⟩ <;> rw [a3, b3] <;> first | omega | (exfalso; first | exact b1 (s1 a1) | exact a2 (s2 b2))
  · have d := N.bd m hm
    rcases frm m hm with ⟨a1, a2, a3⟩ | ⟨a1, a2, a3⟩ | ⟨a1, a2, a3⟩ <;> rw [a3] <;> omega
/-- amounts make a scale -/
theorem near_nums {h : Nat} {a : Nat → Int} {B : Int} (ha : ∀ j, j < h → 0 ≤ a j) (he : sumT a h % 2 = 0) (hB : sumT a h ≤ 2 * B) : Nums h (fun m => near a m h - sumT a h / 2) B := by
  have nr : ∀ m, m < 2 ^ h → near a m h + near a (2 ^ h - 1 - m) h = sumT a h := fun m hm => near_rest fun j hj => by rw [rest_bit hm, decide_eq_true hj, Bool.true_and]
  refine ⟨fun m hm => ?_, fun m j hm hj => ?_, fun m hm => ?_⟩
  · have := nr m hm
    omega
  · have := near_mono (m := m) (m2 := m ||| 2 ^ j) ha fun i hi => or_bit hi
    omega
  · have := nr m hm
    have := near_nonneg (m := m) ha
    have := near_nonneg (m := 2 ^ h - 1 - m) ha
    omega

/-! ### by_amounts -/
theorem box_run {n m0 : Nat} {cs : List Int} {i : Nat} {b : Int} (h : 0 < m0 ∧ m0 < 1000) : ∃ (i' : Nat) (b' : Int) (r : Nat), r < m0 ∧
    callF T (n + 1) 2 [.val (cellsD cs), .io (.lst [.int i, .int b]), .val (.int (m0 : Int))] = .ret (.val (.int r)) [.un, .io (.lst [.int i', .int b']), .un] := by
  obtain ⟨i', b', r, hr, e⟩ := digit_run n cs i b m0 (by omega)
  exact ⟨i', b', r, by omega, e⟩
/-- the menu of amounts -/
def menu (h : Nat) : List Int := [1, 2, 0, 3, 5, 7, 10 ^ 6, 2 * 10 ^ 9 / (h : Int)]
theorem menu_ok {h r : Nat} (h1 : 1 ≤ h) (h7 : h ≤ 7) (hr : r < 8) : ∃ x, (menu h)[r]? = some x ∧ 0 ≤ x ∧ x * h ≤ 2 * 10 ^ 9 := by
  have e : 2 * 10 ^ 9 / (h : Int) * h ≤ 2 * 10 ^ 9 := Int.ediv_mul_le _ (by omega)
  have e0 : 0 ≤ 2 * 10 ^ 9 / (h : Int) := Int.ediv_nonneg (by decide) (by omega)
  rcases r with _ | _ | _ | _ | _ | _ | _ | _ | r <;> first | (refine ⟨_, rfl, ?_, ?_⟩ <;> omega) | omega
theorem by_amounts_run (n h : Nat) (cs : List Int) (i : Nat) (b : Int) (h1 : 1 ≤ h) (h7 : h ≤ 7) : ∃ (i' : Nat) (b' : Int) (g : Nat → Int), Nums h g (10 ^ 9) ∧
    callF T (n + 2) 3 [.val (cellsD cs), .io (.lst [.int i, .int b]), .val (.int (h : Int))] = .ret (.own (.lst (tabI g (2 ^ h)))) [.un, .io (.lst [.int i', .int b']), .un] := by
  rw [callF_at fn_law_by_amounts rfl]
  simp only [fd_law_by_amounts, c_law_by_amounts, List.length_cons, List.length_nil, List.replicate, List.cons_append, List.nil_append]
  have rh : rngOk (h : Int) = true := rngOk_of (by omega) (by omega)
  have dh : divOk (h : Int) = true := divOk_small (by omega) (by omega)
  have d2 : divOk 2 = true := divOk_small (by decide) (by decide)
  simp only [sz0, sz1, sz2, sz3, sz4, sz5, sz6, sz7, sz8, sz9, sz10, sz11, sz12, sz13, sz14, e_var, e_non, e_bl, e_int, e_str, e_glo, e_bin, e_neg, e_inv, e_nt, e_cmp, e_cmp2, e_and, e_or, e_ite, e_tup, e_lst, e_sub, e_slc, e_att, e_ccon, e_call, e_new, e_isi, e_bi, e_bm, e_mth, e_lso, e_app, e_pop, e_popAt, e_comp, es_nil, es_cons, t_and, t_or, t_nt, t_var, t_cmp, t_cmp2, t_call, t_isi, t_bi, t_bin, t_att, t_mth, t_bl, src_of, src_range1, src_range2, src_enum, src_zip, src_rev, s_expr, s_set, s_hold, s_setsub, s_setatt, s_unpack, s_ite, s_for, s_ret, s_retN, s_pass, s_brk, s_cnt, s_never, ss_nil, ss_cons, b1_ok, b2_ok, bs_ok, bE_ok, bL_ok, bT_ok, bI_ok, sE_ok, sT_ok, sI_ok, seq_nx, seq_rt, fite_t, fite_f, gite_t, gite_f, fnot_e, gexpr_e, gret_e, fcon_e, rdc_v, rdc_o, rdc_b, rd_v, rd_o, rd_i, rd_l, m1_e, op1_e, m2_e, op2_e, mk_t, mk_f, okB_e, m2c_e, fcmp_e, m3_t, m3_f, mc2_e, fcmp2_e, cmp2_e, nt_e, neg_e, tru_bl, tru_int, tru_non, tru1_e, consO_e, rdcs_n, rdcs_c, bi1_e, mbi_e, nxO_e, toVal_v, toVal_o, toVal_b, mval_o, mval_v, toVals_n, toVals_c, tvc_e, mapd_e, gset_e, mset_e, ghold_o, ghold_v, asg_e, masg_u, masg_v, masg_o, gsub_e, fsub_e, gput_e, mput_e, mput2_e, mput3_e, fapp_e, app1_e, mapp_e, mapp2_e, mapp3_e, ownAt_e, mown_o, mown_i, isLst_e, mlst_e, varE_e, mvar_v, mvar_o, mvar_i, mvar_l, frng_e, mrng_e, mrng2_e, fof_e, mof_e, mof2_e, toSrc_v, toSrc_o, toSrc_b, msrc_o, msrc_l, items_l, items_t, ftup_e, flst_e, mtup_e, mlis_e, mtup2_e, fand_e, mand_t, mand_f, ret_v, ret_o, ret_b, mret_o, mret_ln, partR_t, partR_f, callG_e, mcall_e, mcall2_v, mcall2_o, mcall3_e, newG_e, mnew_e, mnew2_e, mnew3_e, give_n, give_c, gvc_e, gvm_e, give_v, mg1_e, give_rv, give_ro, give_rb, mgr_o, mgr_i, mgr_l, give_mo, give_mb, mgm_o, mgm_i, tb_n, tb_0, tb_i, tb_u, mtb_e, mtb2_e, fin_n, fin_r, mfin_e, mou_e, ou_n, ou_i, ou_v, ou_l, gatt_e, matt_e, matt2_e, matt3_e, getI0, getI1, setI0, setI1, omap_s, obind_s, nic_n, nic_i, bAdd, bSub, cLt, cLe, cGt, cGe, cEq, cNe, Bool.not_true, Bool.not_false, List.cons_append, List.nil_append, rh, Int.toNat_natCast]
  generalize hL : forB _ _ _ _ _ _ = L
  obtain ⟨ρ', e, i1, b1, a, s4, s7, s8, f4, f7, f8, ha, eρ⟩ : ∃ ρ', L = .nx ρ' ∧ ∃ (i1 : Nat) (b1 : Int) (a : Nat → Int) (s4 s7 s8 : Slot), FreeS s4 ∧ FreeS s7 ∧ FreeS s8 ∧ (∀ j, j < h → 0 ≤ a j ∧ a j * h ≤ 2 * 10 ^ 9) ∧
      ρ' = [.val (cellsD cs), .io (.lst [.int i1, .int b1]), .val (.int (h : Int)), .own (.lst (tabI a h)), s4, .un, .un, s7, s8, .un, .un] := by
    rw [← hL]
    refine for0 (fun k ρ' => ∃ (i1 : Nat) (b1 : Int) (a : Nat → Int) (s4 s7 s8 : Slot), FreeS s4 ∧ FreeS s7 ∧ FreeS s8 ∧ (∀ j, j < k → 0 ≤ a j ∧ a j * h ≤ 2 * 10 ^ 9) ∧
      ρ' = [.val (cellsD cs), .io (.lst [.int i1, .int b1]), .val (.int (h : Int)), .own (.lst (tabI a k)), s4, .un, .un, s7, s8, .un, .un])
      ⟨i, b, fun _ => 0, _, _, _, FreeS.un, FreeS.un, FreeS.un, fun j hj => by omega, rfl⟩ fun k ρ hk ⟨i1, b1, a, s4, s7, s8, f4, f7, f8, ha, e⟩ => ?_
    subst e
    obtain ⟨i2, b2, r, hr, er⟩ := digit_run n cs i1 b1 8 ⟨by decide, by decide⟩
    obtain ⟨x, hx, x0, xB⟩ := menu_ok h1 h7 (r := (r + k) % 8) (Nat.mod_lt _ (by decide))
    have hpk : ((r : Int) + (k : Int)) % 8 = (((r + k) % 8 : Nat) : Int) := by omega
    have hx2 : sub2 (.lst [.int 1, .int 2, .int 0, .int 3, .int 5, .int 7, .int (10 ^ 6), .int (2 * 10 ^ 9 / (h : Int))]) (.int (((r + k) % 8 : Nat) : Int)) = some (false, .int x) := by
      show (atI ((menu h).map D.int) _).map _ = _
      rw [atI_nat (by simp [menu]; omega), List.getElem?_map, hx]; rfl
    have ex := tabI_push (a := a) (k := k) (x := x)
    refine ⟨_, _, asg_free rfl f4, ?_, i2, b2, fun j => if j = k then x else a j, .val (.int (k : Int)), .val (.int (((r + k) % 8 : Nat) : Int)), .val (.lst [.int 1, .int 2, .int 0, .int 3, .int 5, .int 7, .int (10 ^ 6), .int (2 * 10 ^ 9 / (h : Int))]), FreeS.val, FreeS.val, FreeS.val, fun j hj => ?_, rfl⟩
    · simp only [sz0, sz1, sz2, sz3, sz4, sz5, sz6, sz7, sz8, sz9, sz10, sz11, sz12, sz13, sz14, e_var, e_non, e_bl, e_int, e_str, e_glo, e_bin, e_neg, e_inv, e_nt, e_cmp, e_cmp2, e_and, e_or, e_ite, e_tup, e_lst, e_sub, e_slc, e_att, e_ccon, e_call, e_new, e_isi, e_bi, e_bm, e_mth, e_lso, e_app, e_pop, e_popAt, e_comp, es_nil, es_cons, t_and, t_or, t_nt, t_var, t_cmp, t_cmp2, t_call, t_isi, t_bi, t_bin, t_att, t_mth, t_bl, src_of, src_range1, src_range2, src_enum, src_zip, src_rev, s_expr, s_set, s_hold, s_setsub, s_setatt, s_unpack, s_ite, s_for, s_ret, s_retN, s_pass, s_brk, s_cnt, s_never, ss_nil, ss_cons, b1_ok, b2_ok, bs_ok, bE_ok, bL_ok, bT_ok, bI_ok, sE_ok, sT_ok, sI_ok, seq_nx, seq_rt, fite_t, fite_f, gite_t, gite_f, fnot_e, gexpr_e, gret_e, fcon_e, rdc_v, rdc_o, rdc_b, rd_v, rd_o, rd_i, rd_l, m1_e, op1_e, m2_e, op2_e, mk_t, mk_f, okB_e, m2c_e, fcmp_e, m3_t, m3_f, mc2_e, fcmp2_e, cmp2_e, nt_e, neg_e, tru_bl, tru_int, tru_non, tru1_e, consO_e, rdcs_n, rdcs_c, bi1_e, mbi_e, nxO_e, toVal_v, toVal_o, toVal_b, mval_o, mval_v, toVals_n, toVals_c, tvc_e, mapd_e, gset_e, mset_e, ghold_o, ghold_v, asg_e, masg_u, masg_v, masg_o, gsub_e, fsub_e, gput_e, mput_e, mput2_e, mput3_e, fapp_e, app1_e, mapp_e, mapp2_e, mapp3_e, ownAt_e, mown_o, mown_i, isLst_e, mlst_e, varE_e, mvar_v, mvar_o, mvar_i, mvar_l, frng_e, mrng_e, mrng2_e, fof_e, mof_e, mof2_e, toSrc_v, toSrc_o, toSrc_b, msrc_o, msrc_l, items_l, items_t, ftup_e, flst_e, mtup_e, mlis_e, mtup2_e, fand_e, mand_t, mand_f, ret_v, ret_o, ret_b, mret_o, mret_ln, partR_t, partR_f, callG_e, mcall_e, mcall2_v, mcall2_o, mcall3_e, newG_e, mnew_e, mnew2_e, mnew3_e, give_n, give_c, gvc_e, gvm_e, give_v, mg1_e, give_rv, give_ro, give_rb, mgr_o, mgr_i, mgr_l, give_mo, give_mb, mgm_o, mgm_i, tb_n, tb_0, tb_i, tb_u, mtb_e, mtb2_e, fin_n, fin_r, mfin_e, mou_e, ou_n, ou_i, ou_v, ou_l, gatt_e, matt_e, matt2_e, matt3_e, getI0, getI1, setI0, setI1, omap_s, obind_s, nic_n, nic_i, bAdd, bSub, cLt, cLe, cGt, cGe, cEq, cNe, Bool.not_true, Bool.not_false, List.cons_append, List.nil_append, fn_law, fn_Scale___init, fn_law_digit, cd_law_digit, fn_law_by_amounts, cd_law_by_amounts, fn_law_due_halves, cd_law_due_halves, fn_additive, cd_additive, fn_law_same, cd_law_same, fn_law_push, cd_law_push, fn_law_pushed, cd_law_pushed, fn_law_halves, cd_law_halves, fn_law_adds_up, cd_law_adds_up, fn_idle_hands, cd_idle_hands, fn_law_idle, cd_law_idle, fn_check_hands, cd_check_hands, fn_check_length, cd_check_length, fn_check_opposite, cd_check_opposite, fn_check_rising, cd_check_rising, fn_check_number, cd_check_number, fn_law_amounts, cd_law_amounts, fn_law_fits, cd_law_fits, fn_amounts_of, cd_amounts_of, fn_Ratio___init, fn_rest_mask, cd_rest_mask, fn_with_hand, cd_with_hand, fn_has_hand, cd_has_hand, nd_Scale_2, nd_Ratio_1, nd_Ratio_2, at_Scale_hands, at_Scale_numbers, li_Scale, at_Ratio_top, at_Ratio_bottom, cc_Scale_MOST, gl_MOST_HANDS, gl_MOST_PART, is_Scale_non, is_Scale_bl, is_Scale_int, is_Scale_str, is_Scale_lst, is_Scale_tup, is_Scale_Scale, is_Scale_Ratio, is_bool_non, is_bool_bl, is_bool_int, is_bool_str, is_bool_lst, is_bool_tup, is_bool_Scale, is_bool_Ratio, is_int_non, is_int_bl, is_int_int, is_int_str, is_int_lst, is_int_tup, is_int_Scale, is_int_Ratio, is_str_non, is_str_bl, is_str_int, is_str_str, is_str_lst, is_str_tup, is_str_Scale, is_str_Ratio, is_list_non, is_list_bl, is_list_int, is_list_str, is_list_lst, is_list_tup, is_list_Scale, is_list_Ratio, is_tuple_non, is_tuple_bl, is_tuple_int, is_tuple_str, is_tuple_lst, is_tuple_tup, is_tuple_Scale, is_tuple_Ratio, is_Ratio_non, is_Ratio_bl, is_Ratio_int, is_Ratio_str, is_Ratio_lst, is_Ratio_tup, is_Ratio_Scale, is_Ratio_Ratio, er, bi_int, hpk, bMod (show (0 : Int) < 8 by decide), masg_f f7, masg_f f8, p6, p9, bMul (show mulOk 2 (10 ^ 9) = true from mulOk_l rfl), bDiv dh, hx2, szT (show k ≤ 1000 by omega), ex]
    · dsimp only
      by_cases j1 : j = k
      · rw [if_pos j1]; exact ⟨x0, xB⟩
      · rw [if_neg j1]; exact ha j (by omega)
  subst e
  have a0 : ∀ j, j < h → 0 ≤ a j := fun j hj => (ha j hj).1
  have aB : sumT a h ≤ 2 * 10 ^ 9 := sumT_bound (by omega) fun j hj => (ha j hj).2
  obtain ⟨a2, c0, c1, c2, hite⟩ : ∃ a2 : Nat → Int, (∀ j, j < h → 0 ≤ a2 j) ∧ sumT a2 h % 2 = 0 ∧ sumT a2 h ≤ 2 * 10 ^ 9 ∧
      evalS T (callF T (n + 1)) (.ite (.cmp .Eq (.bin .Mod (.bi .int (.cons (.bi .sum (.cons (.var 3) (.nil))) (.nil))) (.int 2)) (.int 1)) (.cons (.setsub 3 (.int 0) (.bin .Add (.sub (.var 3) (.int 0)) (.int 1))) (.nil)) (.nil)) ρ' =
        .nx [.val (cellsD cs), .io (.lst [.int i1, .int b1]), .val (.int (h : Int)), .own (.lst (tabI a2 h)), s4, .un, .un, s7, s8, .un, .un] := by
    subst eρ
    by_cases hodd : sumT a h % 2 = 1
    · have d : decide (sumT a h % 2 = 1) = true := decide_eq_true hodd
      have su := sumT_up0 (a := a) (n := h) (by omega)
      refine ⟨fun j => if j = 0 then a 0 + 1 else a j, fun j hj => ?_, by rw [su]; omega, by rw [su]; omega, ?_⟩
      · dsimp only
        by_cases j0 : j = 0
        · rw [if_pos j0]; have := a0 0 (by omega); omega
        · rw [if_neg j0]; exact a0 j hj
      · have e2 : (tabI a h).set 0 (.int (a 0 + 1)) = tabI (fun j => if j = 0 then a 0 + 1 else a j) h := by
          rw [tab_set]
          refine tab_congr fun j hj => ?_
          by_cases j0 : j = 0 <;> simp [j0]
        simp only [sz0, sz1, sz2, sz3, sz4, sz5, sz6, sz7, sz8, sz9, sz10, sz11, sz12, sz13, sz14, e_var, e_non, e_bl, e_int, e_str, e_glo, e_bin, e_neg, e_inv, e_nt, e_cmp, e_cmp2, e_and, e_or, e_ite, e_tup, e_lst, e_sub, e_slc, e_att, e_ccon, e_call, e_new, e_isi, e_bi, e_bm, e_mth, e_lso, e_app, e_pop, e_popAt, e_comp, es_nil, es_cons, t_and, t_or, t_nt, t_var, t_cmp, t_cmp2, t_call, t_isi, t_bi, t_bin, t_att, t_mth, t_bl, src_of, src_range1, src_range2, src_enum, src_zip, src_rev, s_expr, s_set, s_hold, s_setsub, s_setatt, s_unpack, s_ite, s_for, s_ret, s_retN, s_pass, s_brk, s_cnt, s_never, ss_nil, ss_cons, b1_ok, b2_ok, bs_ok, bE_ok, bL_ok, bT_ok, bI_ok, sE_ok, sT_ok, sI_ok, seq_nx, seq_rt, fite_t, fite_f, gite_t, gite_f, fnot_e, gexpr_e, gret_e, fcon_e, rdc_v, rdc_o, rdc_b, rd_v, rd_o, rd_i, rd_l, m1_e, op1_e, m2_e, op2_e, mk_t, mk_f, okB_e, m2c_e, fcmp_e, m3_t, m3_f, mc2_e, fcmp2_e, cmp2_e, nt_e, neg_e, tru_bl, tru_int, tru_non, tru1_e, consO_e, rdcs_n, rdcs_c, bi1_e, mbi_e, nxO_e, toVal_v, toVal_o, toVal_b, mval_o, mval_v, toVals_n, toVals_c, tvc_e, mapd_e, gset_e, mset_e, ghold_o, ghold_v, asg_e, masg_u, masg_v, masg_o, gsub_e, fsub_e, gput_e, mput_e, mput2_e, mput3_e, fapp_e, app1_e, mapp_e, mapp2_e, mapp3_e, ownAt_e, mown_o, mown_i, isLst_e, mlst_e, varE_e, mvar_v, mvar_o, mvar_i, mvar_l, frng_e, mrng_e, mrng2_e, fof_e, mof_e, mof2_e, toSrc_v, toSrc_o, toSrc_b, msrc_o, msrc_l, items_l, items_t, ftup_e, flst_e, mtup_e, mlis_e, mtup2_e, fand_e, mand_t, mand_f, ret_v, ret_o, ret_b, mret_o, mret_ln, partR_t, partR_f, callG_e, mcall_e, mcall2_v, mcall2_o, mcall3_e, newG_e, mnew_e, mnew2_e, mnew3_e, give_n, give_c, gvc_e, gvm_e, give_v, mg1_e, give_rv, give_ro, give_rb, mgr_o, mgr_i, mgr_l, give_mo, give_mb, mgm_o, mgm_i, tb_n, tb_0, tb_i, tb_u, mtb_e, mtb2_e, fin_n, fin_r, mfin_e, mou_e, ou_n, ou_i, ou_v, ou_l, gatt_e, matt_e, matt2_e, matt3_e, getI0, getI1, setI0, setI1, omap_s, obind_s, nic_n, nic_i, bAdd, bSub, cLt, cLe, cGt, cGe, cEq, cNe, Bool.not_true, Bool.not_false, List.cons_append, List.nil_append, bi_sumT, bi_int, bMod (show (0 : Int) < 2 by decide), d, sub2_tab0 (show 0 < h by omega), ixN_tab0 (show 0 < h by omega), e2]
    · have d : decide (sumT a h % 2 = 1) = false := decide_eq_false hodd
      refine ⟨a, a0, by omega, aB, ?_⟩
      simp only [sz0, sz1, sz2, sz3, sz4, sz5, sz6, sz7, sz8, sz9, sz10, sz11, sz12, sz13, sz14, e_var, e_non, e_bl, e_int, e_str, e_glo, e_bin, e_neg, e_inv, e_nt, e_cmp, e_cmp2, e_and, e_or, e_ite, e_tup, e_lst, e_sub, e_slc, e_att, e_ccon, e_call, e_new, e_isi, e_bi, e_bm, e_mth, e_lso, e_app, e_pop, e_popAt, e_comp, es_nil, es_cons, t_and, t_or, t_nt, t_var, t_cmp, t_cmp2, t_call, t_isi, t_bi, t_bin, t_att, t_mth, t_bl, src_of, src_range1, src_range2, src_enum, src_zip, src_rev, s_expr, s_set, s_hold, s_setsub, s_setatt, s_unpack, s_ite, s_for, s_ret, s_retN, s_pass, s_brk, s_cnt, s_never, ss_nil, ss_cons, b1_ok, b2_ok, bs_ok, bE_ok, bL_ok, bT_ok, bI_ok, sE_ok, sT_ok, sI_ok, seq_nx, seq_rt, fite_t, fite_f, gite_t, gite_f, fnot_e, gexpr_e, gret_e, fcon_e, rdc_v, rdc_o, rdc_b, rd_v, rd_o, rd_i, rd_l, m1_e, op1_e, m2_e, op2_e, mk_t, mk_f, okB_e, m2c_e, fcmp_e, m3_t, m3_f, mc2_e, fcmp2_e, cmp2_e, nt_e, neg_e, tru_bl, tru_int, tru_non, tru1_e, consO_e, rdcs_n, rdcs_c, bi1_e, mbi_e, nxO_e, toVal_v, toVal_o, toVal_b, mval_o, mval_v, toVals_n, toVals_c, tvc_e, mapd_e, gset_e, mset_e, ghold_o, ghold_v, asg_e, masg_u, masg_v, masg_o, gsub_e, fsub_e, gput_e, mput_e, mput2_e, mput3_e, fapp_e, app1_e, mapp_e, mapp2_e, mapp3_e, ownAt_e, mown_o, mown_i, isLst_e, mlst_e, varE_e, mvar_v, mvar_o, mvar_i, mvar_l, frng_e, mrng_e, mrng2_e, fof_e, mof_e, mof2_e, toSrc_v, toSrc_o, toSrc_b, msrc_o, msrc_l, items_l, items_t, ftup_e, flst_e, mtup_e, mlis_e, mtup2_e, fand_e, mand_t, mand_f, ret_v, ret_o, ret_b, mret_o, mret_ln, partR_t, partR_f, callG_e, mcall_e, mcall2_v, mcall2_o, mcall3_e, newG_e, mnew_e, mnew2_e, mnew3_e, give_n, give_c, gvc_e, gvm_e, give_v, mg1_e, give_rv, give_ro, give_rb, mgr_o, mgr_i, mgr_l, give_mo, give_mb, mgm_o, mgm_i, tb_n, tb_0, tb_i, tb_u, mtb_e, mtb2_e, fin_n, fin_r, mfin_e, mou_e, ou_n, ou_i, ou_v, ou_l, gatt_e, matt_e, matt2_e, matt3_e, getI0, getI1, setI0, setI1, omap_s, obind_s, nic_n, nic_i, bAdd, bSub, cLt, cLe, cGt, cGe, cEq, cNe, Bool.not_true, Bool.not_false, List.cons_append, List.nil_append, bi_sumT, bi_int, bMod (show (0 : Int) < 2 by decide), d]
  rw [seq_nx, ss_cons, hite, seq_nx]
  refine ⟨i1, b1, _, near_nums c0 c1 (by omega), ?_⟩
  simp only [sz0, sz1, sz2, sz3, sz4, sz5, sz6, sz7, sz8, sz9, sz10, sz11, sz12, sz13, sz14, e_var, e_non, e_bl, e_int, e_str, e_glo, e_bin, e_neg, e_inv, e_nt, e_cmp, e_cmp2, e_and, e_or, e_ite, e_tup, e_lst, e_sub, e_slc, e_att, e_ccon, e_call, e_new, e_isi, e_bi, e_bm, e_mth, e_lso, e_app, e_pop, e_popAt, e_comp, es_nil, es_cons, t_and, t_or, t_nt, t_var, t_cmp, t_cmp2, t_call, t_isi, t_bi, t_bin, t_att, t_mth, t_bl, src_of, src_range1, src_range2, src_enum, src_zip, src_rev, s_expr, s_set, s_hold, s_setsub, s_setatt, s_unpack, s_ite, s_for, s_ret, s_retN, s_pass, s_brk, s_cnt, s_never, ss_nil, ss_cons, b1_ok, b2_ok, bs_ok, bE_ok, bL_ok, bT_ok, bI_ok, sE_ok, sT_ok, sI_ok, seq_nx, seq_rt, fite_t, fite_f, gite_t, gite_f, fnot_e, gexpr_e, gret_e, fcon_e, rdc_v, rdc_o, rdc_b, rd_v, rd_o, rd_i, rd_l, m1_e, op1_e, m2_e, op2_e, mk_t, mk_f, okB_e, m2c_e, fcmp_e, m3_t, m3_f, mc2_e, fcmp2_e, cmp2_e, nt_e, neg_e, tru_bl, tru_int, tru_non, tru1_e, consO_e, rdcs_n, rdcs_c, bi1_e, mbi_e, nxO_e, toVal_v, toVal_o, toVal_b, mval_o, mval_v, toVals_n, toVals_c, tvc_e, mapd_e, gset_e, mset_e, ghold_o, ghold_v, asg_e, masg_u, masg_v, masg_o, gsub_e, fsub_e, gput_e, mput_e, mput2_e, mput3_e, fapp_e, app1_e, mapp_e, mapp2_e, mapp3_e, ownAt_e, mown_o, mown_i, isLst_e, mlst_e, varE_e, mvar_v, mvar_o, mvar_i, mvar_l, frng_e, mrng_e, mrng2_e, fof_e, mof_e, mof2_e, toSrc_v, toSrc_o, toSrc_b, msrc_o, msrc_l, items_l, items_t, ftup_e, flst_e, mtup_e, mlis_e, mtup2_e, fand_e, mand_t, mand_f, ret_v, ret_o, ret_b, mret_o, mret_ln, partR_t, partR_f, callG_e, mcall_e, mcall2_v, mcall2_o, mcall3_e, newG_e, mnew_e, mnew2_e, mnew3_e, give_n, give_c, gvc_e, gvm_e, give_v, mg1_e, give_rv, give_ro, give_rb, mgr_o, mgr_i, mgr_l, give_mo, give_mb, mgm_o, mgm_i, tb_n, tb_0, tb_i, tb_u, mtb_e, mtb2_e, fin_n, fin_r, mfin_e, mou_e, ou_n, ou_i, ou_v, ou_l, gatt_e, matt_e, matt2_e, matt3_e, getI0, getI1, setI0, setI1, omap_s, obind_s, nic_n, nic_i, bAdd, bSub, cLt, cLe, cGt, cGe, cEq, cNe, Bool.not_true, Bool.not_false, List.cons_append, List.nil_append, shl1 (show h ≤ 1000000 by omega), rngOk_pow h7, Int.toNat_natCast]
  generalize hL2 : forB _ _ _ _ _ _ = L2
  obtain ⟨ρ2, e, s6, s9, f6, f9, eρ⟩ : ∃ ρ', L2 = .nx ρ' ∧ ∃ (s6 s9 : Slot), FreeS s6 ∧ FreeS s9 ∧
      ρ' = [.val (cellsD cs), .io (.lst [.int i1, .int b1]), .val (.int (h : Int)), .own (.lst (tabI a2 h)), s4, .own (.lst (tabI (fun m => near a2 m h - sumT a2 h / 2) (2 ^ h))), s6, s7, s8, s9, .un] := by
    rw [← hL2]
    refine for0 (fun k ρ' => ∃ (s6 s9 : Slot), FreeS s6 ∧ FreeS s9 ∧
      ρ' = [.val (cellsD cs), .io (.lst [.int i1, .int b1]), .val (.int (h : Int)), .own (.lst (tabI a2 h)), s4, .own (.lst (tabI (fun m => near a2 m h - sumT a2 h / 2) k)), s6, s7, s8, s9, .un])
      ⟨_, _, FreeS.un, FreeS.un, rfl⟩ fun k ρ hk ⟨s6, s9, f6, f9, e⟩ => ?_
    subst e
    have hk2 : k ≤ 1000 := by
      have : 2 ^ h ≤ 2 ^ 7 := Nat.pow_le_pow_right (by decide) h7
      omega
    refine ⟨_, _, asg_free rfl f6, ?_, .val (.int (k : Int)), .val (.int (near a2 k h)), FreeS.val, FreeS.val, rfl⟩
    simp only [sz0, sz1, sz2, sz3, sz4, sz5, sz6, sz7, sz8, sz9, sz10, sz11, sz12, sz13, sz14, e_var, e_non, e_bl, e_int, e_str, e_glo, e_bin, e_neg, e_inv, e_nt, e_cmp, e_cmp2, e_and, e_or, e_ite, e_tup, e_lst, e_sub, e_slc, e_att, e_ccon, e_call, e_new, e_isi, e_bi, e_bm, e_mth, e_lso, e_app, e_pop, e_popAt, e_comp, es_nil, es_cons, t_and, t_or, t_nt, t_var, t_cmp, t_cmp2, t_call, t_isi, t_bi, t_bin, t_att, t_mth, t_bl, src_of, src_range1, src_range2, src_enum, src_zip, src_rev, s_expr, s_set, s_hold, s_setsub, s_setatt, s_unpack, s_ite, s_for, s_ret, s_retN, s_pass, s_brk, s_cnt, s_never, ss_nil, ss_cons, b1_ok, b2_ok, bs_ok, bE_ok, bL_ok, bT_ok, bI_ok, sE_ok, sT_ok, sI_ok, seq_nx, seq_rt, fite_t, fite_f, gite_t, gite_f, fnot_e, gexpr_e, gret_e, fcon_e, rdc_v, rdc_o, rdc_b, rd_v, rd_o, rd_i, rd_l, m1_e, op1_e, m2_e, op2_e, mk_t, mk_f, okB_e, m2c_e, fcmp_e, m3_t, m3_f, mc2_e, fcmp2_e, cmp2_e, nt_e, neg_e, tru_bl, tru_int, tru_non, tru1_e, consO_e, rdcs_n, rdcs_c, bi1_e, mbi_e, nxO_e, toVal_v, toVal_o, toVal_b, mval_o, mval_v, toVals_n, toVals_c, tvc_e, mapd_e, gset_e, mset_e, ghold_o, ghold_v, asg_e, masg_u, masg_v, masg_o, gsub_e, fsub_e, gput_e, mput_e, mput2_e, mput3_e, fapp_e, app1_e, mapp_e, mapp2_e, mapp3_e, ownAt_e, mown_o, mown_i, isLst_e, mlst_e, varE_e, mvar_v, mvar_o, mvar_i, mvar_l, frng_e, mrng_e, mrng2_e, fof_e, mof_e, mof2_e, toSrc_v, toSrc_o, toSrc_b, msrc_o, msrc_l, items_l, items_t, ftup_e, flst_e, mtup_e, mlis_e, mtup2_e, fand_e, mand_t, mand_f, ret_v, ret_o, ret_b, mret_o, mret_ln, partR_t, partR_f, callG_e, mcall_e, mcall2_v, mcall2_o, mcall3_e, newG_e, mnew_e, mnew2_e, mnew3_e, give_n, give_c, gvc_e, gvm_e, give_v, mg1_e, give_rv, give_ro, give_rb, mgr_o, mgr_i, mgr_l, give_mo, give_mb, mgm_o, mgm_i, tb_n, tb_0, tb_i, tb_u, mtb_e, mtb2_e, fin_n, fin_r, mfin_e, mou_e, ou_n, ou_i, ou_v, ou_l, gatt_e, matt_e, matt2_e, matt3_e, getI0, getI1, setI0, setI1, omap_s, obind_s, nic_n, nic_i, bAdd, bSub, cLt, cLe, cGt, cGe, cEq, cNe, Bool.not_true, Bool.not_false, List.cons_append, List.nil_append, rh, Int.toNat_natCast]
    rw [cmpR (fun j => k.testBit j) (fun j => .int (a2 j)) rfl FreeS.un (by omega) fun j hj => ⟨by
      simp only [sz0, sz1, sz2, sz3, sz4, sz5, sz6, sz7, sz8, sz9, sz10, sz11, sz12, sz13, sz14, e_var, e_non, e_bl, e_int, e_str, e_glo, e_bin, e_neg, e_inv, e_nt, e_cmp, e_cmp2, e_and, e_or, e_ite, e_tup, e_lst, e_sub, e_slc, e_att, e_ccon, e_call, e_new, e_isi, e_bi, e_bm, e_mth, e_lso, e_app, e_pop, e_popAt, e_comp, es_nil, es_cons, t_and, t_or, t_nt, t_var, t_cmp, t_cmp2, t_call, t_isi, t_bi, t_bin, t_att, t_mth, t_bl, src_of, src_range1, src_range2, src_enum, src_zip, src_rev, s_expr, s_set, s_hold, s_setsub, s_setatt, s_unpack, s_ite, s_for, s_ret, s_retN, s_pass, s_brk, s_cnt, s_never, ss_nil, ss_cons, b1_ok, b2_ok, bs_ok, bE_ok, bL_ok, bT_ok, bI_ok, sE_ok, sT_ok, sI_ok, seq_nx, seq_rt, fite_t, fite_f, gite_t, gite_f, fnot_e, gexpr_e, gret_e, fcon_e, rdc_v, rdc_o, rdc_b, rd_v, rd_o, rd_i, rd_l, m1_e, op1_e, m2_e, op2_e, mk_t, mk_f, okB_e, m2c_e, fcmp_e, m3_t, m3_f, mc2_e, fcmp2_e, cmp2_e, nt_e, neg_e, tru_bl, tru_int, tru_non, tru1_e, consO_e, rdcs_n, rdcs_c, bi1_e, mbi_e, nxO_e, toVal_v, toVal_o, toVal_b, mval_o, mval_v, toVals_n, toVals_c, tvc_e, mapd_e, gset_e, mset_e, ghold_o, ghold_v, asg_e, masg_u, masg_v, masg_o, gsub_e, fsub_e, gput_e, mput_e, mput2_e, mput3_e, fapp_e, app1_e, mapp_e, mapp2_e, mapp3_e, ownAt_e, mown_o, mown_i, isLst_e, mlst_e, varE_e, mvar_v, mvar_o, mvar_i, mvar_l, frng_e, mrng_e, mrng2_e, fof_e, mof_e, mof2_e, toSrc_v, toSrc_o, toSrc_b, msrc_o, msrc_l, items_l, items_t, ftup_e, flst_e, mtup_e, mlis_e, mtup2_e, fand_e, mand_t, mand_f, ret_v, ret_o, ret_b, mret_o, mret_ln, partR_t, partR_f, callG_e, mcall_e, mcall2_v, mcall2_o, mcall3_e, newG_e, mnew_e, mnew2_e, mnew3_e, give_n, give_c, gvc_e, gvm_e, give_v, mg1_e, give_rv, give_ro, give_rb, mgr_o, mgr_i, mgr_l, give_mo, give_mb, mgm_o, mgm_i, tb_n, tb_0, tb_i, tb_u, mtb_e, mtb2_e, fin_n, fin_r, mfin_e, mou_e, ou_n, ou_i, ou_v, ou_l, gatt_e, matt_e, matt2_e, matt3_e, getI0, getI1, setI0, setI1, omap_s, obind_s, nic_n, nic_i, bAdd, bSub, cLt, cLe, cGt, cGe, cEq, cNe, Bool.not_true, Bool.not_false, List.cons_append, List.nil_append, shl1 (show j ≤ 1000000 by omega), bAnd, bit_ne], fun _ => by
      simp only [sz0, sz1, sz2, sz3, sz4, sz5, sz6, sz7, sz8, sz9, sz10, sz11, sz12, sz13, sz14, e_var, e_non, e_bl, e_int, e_str, e_glo, e_bin, e_neg, e_inv, e_nt, e_cmp, e_cmp2, e_and, e_or, e_ite, e_tup, e_lst, e_sub, e_slc, e_att, e_ccon, e_call, e_new, e_isi, e_bi, e_bm, e_mth, e_lso, e_app, e_pop, e_popAt, e_comp, es_nil, es_cons, t_and, t_or, t_nt, t_var, t_cmp, t_cmp2, t_call, t_isi, t_bi, t_bin, t_att, t_mth, t_bl, src_of, src_range1, src_range2, src_enum, src_zip, src_rev, s_expr, s_set, s_hold, s_setsub, s_setatt, s_unpack, s_ite, s_for, s_ret, s_retN, s_pass, s_brk, s_cnt, s_never, ss_nil, ss_cons, b1_ok, b2_ok, bs_ok, bE_ok, bL_ok, bT_ok, bI_ok, sE_ok, sT_ok, sI_ok, seq_nx, seq_rt, fite_t, fite_f, gite_t, gite_f, fnot_e, gexpr_e, gret_e, fcon_e, rdc_v, rdc_o, rdc_b, rd_v, rd_o, rd_i, rd_l, m1_e, op1_e, m2_e, op2_e, mk_t, mk_f, okB_e, m2c_e, fcmp_e, m3_t, m3_f, mc2_e, fcmp2_e, cmp2_e, nt_e, neg_e, tru_bl, tru_int, tru_non, tru1_e, consO_e, rdcs_n, rdcs_c, bi1_e, mbi_e, nxO_e, toVal_v, toVal_o, toVal_b, mval_o, mval_v, toVals_n, toVals_c, tvc_e, mapd_e, gset_e, mset_e, ghold_o, ghold_v, asg_e, masg_u, masg_v, masg_o, gsub_e, fsub_e, gput_e, mput_e, mput2_e, mput3_e, fapp_e, app1_e, mapp_e, mapp2_e, mapp3_e, ownAt_e, mown_o, mown_i, isLst_e, mlst_e, varE_e, mvar_v, mvar_o, mvar_i, mvar_l, frng_e, mrng_e, mrng2_e, fof_e, mof_e, mof2_e, toSrc_v, toSrc_o, toSrc_b, msrc_o, msrc_l, items_l, items_t, ftup_e, flst_e, mtup_e, mlis_e, mtup2_e, fand_e, mand_t, mand_f, ret_v, ret_o, ret_b, mret_o, mret_ln, partR_t, partR_f, callG_e, mcall_e, mcall2_v, mcall2_o, mcall3_e, newG_e, mnew_e, mnew2_e, mnew3_e, give_n, give_c, gvc_e, gvm_e, give_v, mg1_e, give_rv, give_ro, give_rb, mgr_o, mgr_i, mgr_l, give_mo, give_mb, mgm_o, mgm_i, tb_n, tb_0, tb_i, tb_u, mtb_e, mtb2_e, fin_n, fin_r, mfin_e, mou_e, ou_n, ou_i, ou_v, ou_l, gatt_e, matt_e, matt2_e, matt3_e, getI0, getI1, setI0, setI1, omap_s, obind_s, nic_n, nic_i, bAdd, bSub, cLt, cLe, cGt, cGe, cEq, cNe, Bool.not_true, Bool.not_false, List.cons_append, List.nil_append, sub2_tab hj]⟩]
    simp only [sz0, sz1, sz2, sz3, sz4, sz5, sz6, sz7, sz8, sz9, sz10, sz11, sz12, sz13, sz14, e_var, e_non, e_bl, e_int, e_str, e_glo, e_bin, e_neg, e_inv, e_nt, e_cmp, e_cmp2, e_and, e_or, e_ite, e_tup, e_lst, e_sub, e_slc, e_att, e_ccon, e_call, e_new, e_isi, e_bi, e_bm, e_mth, e_lso, e_app, e_pop, e_popAt, e_comp, es_nil, es_cons, t_and, t_or, t_nt, t_var, t_cmp, t_cmp2, t_call, t_isi, t_bi, t_bin, t_att, t_mth, t_bl, src_of, src_range1, src_range2, src_enum, src_zip, src_rev, s_expr, s_set, s_hold, s_setsub, s_setatt, s_unpack, s_ite, s_for, s_ret, s_retN, s_pass, s_brk, s_cnt, s_never, ss_nil, ss_cons, b1_ok, b2_ok, bs_ok, bE_ok, bL_ok, bT_ok, bI_ok, sE_ok, sT_ok, sI_ok, seq_nx, seq_rt, fite_t, fite_f, gite_t, gite_f, fnot_e, gexpr_e, gret_e, fcon_e, rdc_v, rdc_o, rdc_b, rd_v, rd_o, rd_i, rd_l, m1_e, op1_e, m2_e, op2_e, mk_t, mk_f, okB_e, m2c_e, fcmp_e, m3_t, m3_f, mc2_e, fcmp2_e, cmp2_e, nt_e, neg_e, tru_bl, tru_int, tru_non, tru1_e, consO_e, rdcs_n, rdcs_c, bi1_e, mbi_e, nxO_e, toVal_v, toVal_o, toVal_b, mval_o, mval_v, toVals_n, toVals_c, tvc_e, mapd_e, gset_e, mset_e, ghold_o, ghold_v, asg_e, masg_u, masg_v, masg_o, gsub_e, fsub_e, gput_e, mput_e, mput2_e, mput3_e, fapp_e, app1_e, mapp_e, mapp2_e, mapp3_e, ownAt_e, mown_o, mown_i, isLst_e, mlst_e, varE_e, mvar_v, mvar_o, mvar_i, mvar_l, frng_e, mrng_e, mrng2_e, fof_e, mof_e, mof2_e, toSrc_v, toSrc_o, toSrc_b, msrc_o, msrc_l, items_l, items_t, ftup_e, flst_e, mtup_e, mlis_e, mtup2_e, fand_e, mand_t, mand_f, ret_v, ret_o, ret_b, mret_o, mret_ln, partR_t, partR_f, callG_e, mcall_e, mcall2_v, mcall2_o, mcall3_e, newG_e, mnew_e, mnew2_e, mnew3_e, give_n, give_c, gvc_e, gvm_e, give_v, mg1_e, give_rv, give_ro, give_rb, mgr_o, mgr_i, mgr_l, give_mo, give_mb, mgm_o, mgm_i, tb_n, tb_0, tb_i, tb_u, mtb_e, mtb2_e, fin_n, fin_r, mfin_e, mou_e, ou_n, ou_i, ou_v, ou_l, gatt_e, matt_e, matt2_e, matt3_e, getI0, getI1, setI0, setI1, omap_s, obind_s, nic_n, nic_i, bAdd, bSub, cLt, cLe, cGt, cGe, cEq, cNe, Bool.not_true, Bool.not_false, List.cons_append, List.nil_append, bi_sumF, near_filter, masg_f f9, bi_sumT, bDiv d2, szT hk2]
    rw [tab_snoc rfl]
  subst e eρ
  simp only [sz0, sz1, sz2, sz3, sz4, sz5, sz6, sz7, sz8, sz9, sz10, sz11, sz12, sz13, sz14, e_var, e_non, e_bl, e_int, e_str, e_glo, e_bin, e_neg, e_inv, e_nt, e_cmp, e_cmp2, e_and, e_or, e_ite, e_tup, e_lst, e_sub, e_slc, e_att, e_ccon, e_call, e_new, e_isi, e_bi, e_bm, e_mth, e_lso, e_app, e_pop, e_popAt, e_comp, es_nil, es_cons, t_and, t_or, t_nt, t_var, t_cmp, t_cmp2, t_call, t_isi, t_bi, t_bin, t_att, t_mth, t_bl, src_of, src_range1, src_range2, src_enum, src_zip, src_rev, s_expr, s_set, s_hold, s_setsub, s_setatt, s_unpack, s_ite, s_for, s_ret, s_retN, s_pass, s_brk, s_cnt, s_never, ss_nil, ss_cons, b1_ok, b2_ok, bs_ok, bE_ok, bL_ok, bT_ok, bI_ok, sE_ok, sT_ok, sI_ok, seq_nx, seq_rt, fite_t, fite_f, gite_t, gite_f, fnot_e, gexpr_e, gret_e, fcon_e, rdc_v, rdc_o, rdc_b, rd_v, rd_o, rd_i, rd_l, m1_e, op1_e, m2_e, op2_e, mk_t, mk_f, okB_e, m2c_e, fcmp_e, m3_t, m3_f, mc2_e, fcmp2_e, cmp2_e, nt_e, neg_e, tru_bl, tru_int, tru_non, tru1_e, consO_e, rdcs_n, rdcs_c, bi1_e, mbi_e, nxO_e, toVal_v, toVal_o, toVal_b, mval_o, mval_v, toVals_n, toVals_c, tvc_e, mapd_e, gset_e, mset_e, ghold_o, ghold_v, asg_e, masg_u, masg_v, masg_o, gsub_e, fsub_e, gput_e, mput_e, mput2_e, mput3_e, fapp_e, app1_e, mapp_e, mapp2_e, mapp3_e, ownAt_e, mown_o, mown_i, isLst_e, mlst_e, varE_e, mvar_v, mvar_o, mvar_i, mvar_l, frng_e, mrng_e, mrng2_e, fof_e, mof_e, mof2_e, toSrc_v, toSrc_o, toSrc_b, msrc_o, msrc_l, items_l, items_t, ftup_e, flst_e, mtup_e, mlis_e, mtup2_e, fand_e, mand_t, mand_f, ret_v, ret_o, ret_b, mret_o, mret_ln, partR_t, partR_f, callG_e, mcall_e, mcall2_v, mcall2_o, mcall3_e, newG_e, mnew_e, mnew2_e, mnew3_e, give_n, give_c, gvc_e, gvm_e, give_v, mg1_e, give_rv, give_ro, give_rb, mgr_o, mgr_i, mgr_l, give_mo, give_mb, mgm_o, mgm_i, tb_n, tb_0, tb_i, tb_u, mtb_e, mtb2_e, fin_n, fin_r, mfin_e, mou_e, ou_n, ou_i, ou_v, ou_l, gatt_e, matt_e, matt2_e, matt3_e, getI0, getI1, setI0, setI1, omap_s, obind_s, nic_n, nic_i, bAdd, bSub, cLt, cLe, cGt, cGe, cEq, cNe, Bool.not_true, Bool.not_false, List.cons_append, List.nil_append]
end Wf.L10

namespace Wf.L10
open PySem PySem.Spec PyProof.Rows L2 Wf
theorem with_hand_run (n m j : Nat) (hj : j ≤ 1000) : callF T (n + 1) 23 [.val (.int (m : Int)), .val (.int (j : Int))] = .ret (.val (.int ((m ||| 2 ^ j : Nat) : Int))) [.un, .un] := by
  rw [callF_at fn_with_hand rfl]
  simp only [fd_with_hand, c_with_hand, List.length_cons, List.length_nil, List.replicate, List.append_nil]
  simp only [sz0, sz1, sz2, sz3, sz4, sz5, sz6, sz7, sz8, sz9, sz10, sz11, sz12, sz13, sz14, e_var, e_non, e_bl, e_int, e_str, e_glo, e_bin, e_neg, e_inv, e_nt, e_cmp, e_cmp2, e_and, e_or, e_ite, e_tup, e_lst, e_sub, e_slc, e_att, e_ccon, e_call, e_new, e_isi, e_bi, e_bm, e_mth, e_lso, e_app, e_pop, e_popAt, e_comp, es_nil, es_cons, t_and, t_or, t_nt, t_var, t_cmp, t_cmp2, t_call, t_isi, t_bi, t_bin, t_att, t_mth, t_bl, src_of, src_range1, src_range2, src_enum, src_zip, src_rev, s_expr, s_set, s_hold, s_setsub, s_setatt, s_unpack, s_ite, s_for, s_ret, s_retN, s_pass, s_brk, s_cnt, s_never, ss_nil, ss_cons, b1_ok, b2_ok, bs_ok, bE_ok, bL_ok, bT_ok, bI_ok, sE_ok, sT_ok, sI_ok, seq_nx, seq_rt, fite_t, fite_f, gite_t, gite_f, fnot_e, gexpr_e, gret_e, fcon_e, rdc_v, rdc_o, rdc_b, rd_v, rd_o, rd_i, rd_l, m1_e, op1_e, m2_e, op2_e, mk_t, mk_f, okB_e, m2c_e, fcmp_e, m3_t, m3_f, mc2_e, fcmp2_e, cmp2_e, nt_e, neg_e, tru_bl, tru_int, tru_non, tru1_e, consO_e, rdcs_n, rdcs_c, bi1_e, mbi_e, nxO_e, toVal_v, toVal_o, toVal_b, mval_o, mval_v, toVals_n, toVals_c, tvc_e, mapd_e, gset_e, mset_e, ghold_o, ghold_v, asg_e, masg_u, masg_v, masg_o, gsub_e, fsub_e, gput_e, mput_e, mput2_e, mput3_e, fapp_e, app1_e, mapp_e, mapp2_e, mapp3_e, ownAt_e, mown_o, mown_i, isLst_e, mlst_e, varE_e, mvar_v, mvar_o, mvar_i, mvar_l, frng_e, mrng_e, mrng2_e, fof_e, mof_e, mof2_e, toSrc_v, toSrc_o, toSrc_b, msrc_o, msrc_l, items_l, items_t, ftup_e, flst_e, mtup_e, mlis_e, mtup2_e, fand_e, mand_t, mand_f, ret_v, ret_o, ret_b, mret_o, mret_ln, partR_t, partR_f, callG_e, mcall_e, mcall2_v, mcall2_o, mcall3_e, newG_e, mnew_e, mnew2_e, mnew3_e, give_n, give_c, gvc_e, gvm_e, give_v, mg1_e, give_rv, give_ro, give_rb, mgr_o, mgr_i, mgr_l, give_mo, give_mb, mgm_o, mgm_i, tb_n, tb_0, tb_i, tb_u, mtb_e, mtb2_e, fin_n, fin_r, mfin_e, mou_e, ou_n, ou_i, ou_v, ou_l, gatt_e, matt_e, matt2_e, matt3_e, getI0, getI1, setI0, setI1, omap_s, obind_s, nic_n, nic_i, bAdd, bSub, cLt, cLe, cGt, cGe, cEq, cNe, Bool.not_true, Bool.not_false, List.cons_append, List.nil_append, shl1 (show j ≤ 1000000 by omega), bOr]
theorem has_hand_run (n m j : Nat) : callF T (n + 1) 24 [.val (.int (m : Int)), .val (.int (j : Int))] = .ret (.val (.bl (m.testBit j))) [.un, .un] := by
  rw [callF_at fn_has_hand rfl]
  simp only [fd_has_hand, c_has_hand, List.length_cons, List.length_nil, List.replicate, List.append_nil]
  simp only [sz0, sz1, sz2, sz3, sz4, sz5, sz6, sz7, sz8, sz9, sz10, sz11, sz12, sz13, sz14, e_var, e_non, e_bl, e_int, e_str, e_glo, e_bin, e_neg, e_inv, e_nt, e_cmp, e_cmp2, e_and, e_or, e_ite, e_tup, e_lst, e_sub, e_slc, e_att, e_ccon, e_call, e_new, e_isi, e_bi, e_bm, e_mth, e_lso, e_app, e_pop, e_popAt, e_comp, es_nil, es_cons, t_and, t_or, t_nt, t_var, t_cmp, t_cmp2, t_call, t_isi, t_bi, t_bin, t_att, t_mth, t_bl, src_of, src_range1, src_range2, src_enum, src_zip, src_rev, s_expr, s_set, s_hold, s_setsub, s_setatt, s_unpack, s_ite, s_for, s_ret, s_retN, s_pass, s_brk, s_cnt, s_never, ss_nil, ss_cons, b1_ok, b2_ok, bs_ok, bE_ok, bL_ok, bT_ok, bI_ok, sE_ok, sT_ok, sI_ok, seq_nx, seq_rt, fite_t, fite_f, gite_t, gite_f, fnot_e, gexpr_e, gret_e, fcon_e, rdc_v, rdc_o, rdc_b, rd_v, rd_o, rd_i, rd_l, m1_e, op1_e, m2_e, op2_e, mk_t, mk_f, okB_e, m2c_e, fcmp_e, m3_t, m3_f, mc2_e, fcmp2_e, cmp2_e, nt_e, neg_e, tru_bl, tru_int, tru_non, tru1_e, consO_e, rdcs_n, rdcs_c, bi1_e, mbi_e, nxO_e, toVal_v, toVal_o, toVal_b, mval_o, mval_v, toVals_n, toVals_c, tvc_e, mapd_e, gset_e, mset_e, ghold_o, ghold_v, asg_e, masg_u, masg_v, masg_o, gsub_e, fsub_e, gput_e, mput_e, mput2_e, mput3_e, fapp_e, app1_e, mapp_e, mapp2_e, mapp3_e, ownAt_e, mown_o, mown_i, isLst_e, mlst_e, varE_e, mvar_v, mvar_o, mvar_i, mvar_l, frng_e, mrng_e, mrng2_e, fof_e, mof_e, mof2_e, toSrc_v, toSrc_o, toSrc_b, msrc_o, msrc_l, items_l, items_t, ftup_e, flst_e, mtup_e, mlis_e, mtup2_e, fand_e, mand_t, mand_f, ret_v, ret_o, ret_b, mret_o, mret_ln, partR_t, partR_f, callG_e, mcall_e, mcall2_v, mcall2_o, mcall3_e, newG_e, mnew_e, mnew2_e, mnew3_e, give_n, give_c, gvc_e, gvm_e, give_v, mg1_e, give_rv, give_ro, give_rb, mgr_o, mgr_i, mgr_l, give_mo, give_mb, mgm_o, mgm_i, tb_n, tb_0, tb_i, tb_u, mtb_e, mtb2_e, fin_n, fin_r, mfin_e, mou_e, ou_n, ou_i, ou_v, ou_l, gatt_e, matt_e, matt2_e, matt3_e, getI0, getI1, setI0, setI1, omap_s, obind_s, nic_n, nic_i, bAdd, bSub, cLt, cLe, cGt, cGe, cEq, cNe, Bool.not_true, Bool.not_false, List.cons_append, List.nil_append, bShr, bAnd1, bit_dec]
theorem rest_mask_run (n h m : Nat) (hh : h ≤ 1000) (hm : m < 2 ^ h) : callF T (n + 1) 22 [.val (.int (h : Int)), .val (.int (m : Int))] = .ret (.val (.int ((2 ^ h - 1 - m : Nat) : Int))) [.un, .un] := by
  rw [callF_at fn_rest_mask rfl]
  simp only [fd_rest_mask, c_rest_mask, List.length_cons, List.length_nil, List.replicate, List.append_nil]
  have e : ((2 ^ h : Nat) : Int) - 1 - (m : Int) = ((2 ^ h - 1 - m : Nat) : Int) := by omega
  simp only [sz0, sz1, sz2, sz3, sz4, sz5, sz6, sz7, sz8, sz9, sz10, sz11, sz12, sz13, sz14, e_var, e_non, e_bl, e_int, e_str, e_glo, e_bin, e_neg, e_inv, e_nt, e_cmp, e_cmp2, e_and, e_or, e_ite, e_tup, e_lst, e_sub, e_slc, e_att, e_ccon, e_call, e_new, e_isi, e_bi, e_bm, e_mth, e_lso, e_app, e_pop, e_popAt, e_comp, es_nil, es_cons, t_and, t_or, t_nt, t_var, t_cmp, t_cmp2, t_call, t_isi, t_bi, t_bin, t_att, t_mth, t_bl, src_of, src_range1, src_range2, src_enum, src_zip, src_rev, s_expr, s_set, s_hold, s_setsub, s_setatt, s_unpack, s_ite, s_for, s_ret, s_retN, s_pass, s_brk, s_cnt, s_never, ss_nil, ss_cons, b1_ok, b2_ok, bs_ok, bE_ok, bL_ok, bT_ok, bI_ok, sE_ok, sT_ok, sI_ok, seq_nx, seq_rt, fite_t, fite_f, gite_t, gite_f, fnot_e, gexpr_e, gret_e, fcon_e, rdc_v, rdc_o, rdc_b, rd_v, rd_o, rd_i, rd_l, m1_e, op1_e, m2_e, op2_e, mk_t, mk_f, okB_e, m2c_e, fcmp_e, m3_t, m3_f, mc2_e, fcmp2_e, cmp2_e, nt_e, neg_e, tru_bl, tru_int, tru_non, tru1_e, consO_e, rdcs_n, rdcs_c, bi1_e, mbi_e, nxO_e, toVal_v, toVal_o, toVal_b, mval_o, mval_v, toVals_n, toVals_c, tvc_e, mapd_e, gset_e, mset_e, ghold_o, ghold_v, asg_e, masg_u, masg_v, masg_o, gsub_e, fsub_e, gput_e, mput_e, mput2_e, mput3_e, fapp_e, app1_e, mapp_e, mapp2_e, mapp3_e, ownAt_e, mown_o, mown_i, isLst_e, mlst_e, varE_e, mvar_v, mvar_o, mvar_i, mvar_l, frng_e, mrng_e, mrng2_e, fof_e, mof_e, mof2_e, toSrc_v, toSrc_o, toSrc_b, msrc_o, msrc_l, items_l, items_t, ftup_e, flst_e, mtup_e, mlis_e, mtup2_e, fand_e, mand_t, mand_f, ret_v, ret_o, ret_b, mret_o, mret_ln, partR_t, partR_f, callG_e, mcall_e, mcall2_v, mcall2_o, mcall3_e, newG_e, mnew_e, mnew2_e, mnew3_e, give_n, give_c, gvc_e, gvm_e, give_v, mg1_e, give_rv, give_ro, give_rb, mgr_o, mgr_i, mgr_l, give_mo, give_mb, mgm_o, mgm_i, tb_n, tb_0, tb_i, tb_u, mtb_e, mtb2_e, fin_n, fin_r, mfin_e, mou_e, ou_n, ou_i, ou_v, ou_l, gatt_e, matt_e, matt2_e, matt3_e, getI0, getI1, setI0, setI1, omap_s, obind_s, nic_n, nic_i, bAdd, bSub, cLt, cLe, cGt, cGe, cEq, cNe, Bool.not_true, Bool.not_false, List.cons_append, List.nil_append, shl1 (show h ≤ 1000000 by omega), e]
theorem check_number_run (n : Nat) (v lo hi : Int) (h1 : lo ≤ v) (h2 : v ≤ hi) : callF T (n + 1) 17 [.val (.int v), .val (.int lo), .val (.int hi)] = .ret (.val .non) [.un, .un, .un] := by
  rw [callF_at fn_check_number rfl]
  simp only [fd_check_number, c_check_number, List.length_cons, List.length_nil, List.replicate, List.append_nil]
  simp only [sz0, sz1, sz2, sz3, sz4, sz5, sz6, sz7, sz8, sz9, sz10, sz11, sz12, sz13, sz14, e_var, e_non, e_bl, e_int, e_str, e_glo, e_bin, e_neg, e_inv, e_nt, e_cmp, e_cmp2, e_and, e_or, e_ite, e_tup, e_lst, e_sub, e_slc, e_att, e_ccon, e_call, e_new, e_isi, e_bi, e_bm, e_mth, e_lso, e_app, e_pop, e_popAt, e_comp, es_nil, es_cons, t_and, t_or, t_nt, t_var, t_cmp, t_cmp2, t_call, t_isi, t_bi, t_bin, t_att, t_mth, t_bl, src_of, src_range1, src_range2, src_enum, src_zip, src_rev, s_expr, s_set, s_hold, s_setsub, s_setatt, s_unpack, s_ite, s_for, s_ret, s_retN, s_pass, s_brk, s_cnt, s_never, ss_nil, ss_cons, b1_ok, b2_ok, bs_ok, bE_ok, bL_ok, bT_ok, bI_ok, sE_ok, sT_ok, sI_ok, seq_nx, seq_rt, fite_t, fite_f, gite_t, gite_f, fnot_e, gexpr_e, gret_e, fcon_e, rdc_v, rdc_o, rdc_b, rd_v, rd_o, rd_i, rd_l, m1_e, op1_e, m2_e, op2_e, mk_t, mk_f, okB_e, m2c_e, fcmp_e, m3_t, m3_f, mc2_e, fcmp2_e, cmp2_e, nt_e, neg_e, tru_bl, tru_int, tru_non, tru1_e, consO_e, rdcs_n, rdcs_c, bi1_e, mbi_e, nxO_e, toVal_v, toVal_o, toVal_b, mval_o, mval_v, toVals_n, toVals_c, tvc_e, mapd_e, gset_e, mset_e, ghold_o, ghold_v, asg_e, masg_u, masg_v, masg_o, gsub_e, fsub_e, gput_e, mput_e, mput2_e, mput3_e, fapp_e, app1_e, mapp_e, mapp2_e, mapp3_e, ownAt_e, mown_o, mown_i, isLst_e, mlst_e, varE_e, mvar_v, mvar_o, mvar_i, mvar_l, frng_e, mrng_e, mrng2_e, fof_e, mof_e, mof2_e, toSrc_v, toSrc_o, toSrc_b, msrc_o, msrc_l, items_l, items_t, ftup_e, flst_e, mtup_e, mlis_e, mtup2_e, fand_e, mand_t, mand_f, ret_v, ret_o, ret_b, mret_o, mret_ln, partR_t, partR_f, callG_e, mcall_e, mcall2_v, mcall2_o, mcall3_e, newG_e, mnew_e, mnew2_e, mnew3_e, give_n, give_c, gvc_e, gvm_e, give_v, mg1_e, give_rv, give_ro, give_rb, mgr_o, mgr_i, mgr_l, give_mo, give_mb, mgm_o, mgm_i, tb_n, tb_0, tb_i, tb_u, mtb_e, mtb2_e, fin_n, fin_r, mfin_e, mou_e, ou_n, ou_i, ou_v, ou_l, gatt_e, matt_e, matt2_e, matt3_e, getI0, getI1, setI0, setI1, omap_s, obind_s, nic_n, nic_i, bAdd, bSub, cLt, cLe, cGt, cGe, cEq, cNe, Bool.not_true, Bool.not_false, List.cons_append, List.nil_append, decide_eq_true h1, decide_eq_true h2]
theorem check_hands_run (n : Nat) (v hi : Int) (h1 : 1 ≤ v) (h2 : v ≤ hi) : callF T (n + 1) 13 [.val (.int v), .val (.int hi)] = .ret (.val .non) [.un, .un] := by
  rw [callF_at fn_check_hands rfl]
  simp only [fd_check_hands, c_check_hands, List.length_cons, List.length_nil, List.replicate, List.append_nil]
  simp only [sz0, sz1, sz2, sz3, sz4, sz5, sz6, sz7, sz8, sz9, sz10, sz11, sz12, sz13, sz14, e_var, e_non, e_bl, e_int, e_str, e_glo, e_bin, e_neg, e_inv, e_nt, e_cmp, e_cmp2, e_and, e_or, e_ite, e_tup, e_lst, e_sub, e_slc, e_att, e_ccon, e_call, e_new, e_isi, e_bi, e_bm, e_mth, e_lso, e_app, e_pop, e_popAt, e_comp, es_nil, es_cons, t_and, t_or, t_nt, t_var, t_cmp, t_cmp2, t_call, t_isi, t_bi, t_bin, t_att, t_mth, t_bl, src_of, src_range1, src_range2, src_enum, src_zip, src_rev, s_expr, s_set, s_hold, s_setsub, s_setatt, s_unpack, s_ite, s_for, s_ret, s_retN, s_pass, s_brk, s_cnt, s_never, ss_nil, ss_cons, b1_ok, b2_ok, bs_ok, bE_ok, bL_ok, bT_ok, bI_ok, sE_ok, sT_ok, sI_ok, seq_nx, seq_rt, fite_t, fite_f, gite_t, gite_f, fnot_e, gexpr_e, gret_e, fcon_e, rdc_v, rdc_o, rdc_b, rd_v, rd_o, rd_i, rd_l, m1_e, op1_e, m2_e, op2_e, mk_t, mk_f, okB_e, m2c_e, fcmp_e, m3_t, m3_f, mc2_e, fcmp2_e, cmp2_e, nt_e, neg_e, tru_bl, tru_int, tru_non, tru1_e, consO_e, rdcs_n, rdcs_c, bi1_e, mbi_e, nxO_e, toVal_v, toVal_o, toVal_b, mval_o, mval_v, toVals_n, toVals_c, tvc_e, mapd_e, gset_e, mset_e, ghold_o, ghold_v, asg_e, masg_u, masg_v, masg_o, gsub_e, fsub_e, gput_e, mput_e, mput2_e, mput3_e, fapp_e, app1_e, mapp_e, mapp2_e, mapp3_e, ownAt_e, mown_o, mown_i, isLst_e, mlst_e, varE_e, mvar_v, mvar_o, mvar_i, mvar_l, frng_e, mrng_e, mrng2_e, fof_e, mof_e, mof2_e, toSrc_v, toSrc_o, toSrc_b, msrc_o, msrc_l, items_l, items_t, ftup_e, flst_e, mtup_e, mlis_e, mtup2_e, fand_e, mand_t, mand_f, ret_v, ret_o, ret_b, mret_o, mret_ln, partR_t, partR_f, callG_e, mcall_e, mcall2_v, mcall2_o, mcall3_e, newG_e, mnew_e, mnew2_e, mnew3_e, give_n, give_c, gvc_e, gvm_e, give_v, mg1_e, give_rv, give_ro, give_rb, mgr_o, mgr_i, mgr_l, give_mo, give_mb, mgm_o, mgm_i, tb_n, tb_0, tb_i, tb_u, mtb_e, mtb2_e, fin_n, fin_r, mfin_e, mou_e, ou_n, ou_i, ou_v, ou_l, gatt_e, matt_e, matt2_e, matt3_e, getI0, getI1, setI0, setI1, omap_s, obind_s, nic_n, nic_i, bAdd, bSub, cLt, cLe, cGt, cGe, cEq, cNe, Bool.not_true, Bool.not_false, List.cons_append, List.nil_append, decide_eq_true h1, decide_eq_true h2]
theorem check_length_run (n : Nat) (v lo hi : Int) (h1 : lo ≤ v) (h2 : v ≤ hi) : callF T (n + 1) 14 [.val (.int v), .val (.int lo), .val (.int hi)] = .ret (.val .non) [.un, .un, .un] := by
  rw [callF_at fn_check_length rfl]
  simp only [fd_check_length, c_check_length, List.length_cons, List.length_nil, List.replicate, List.append_nil]
  simp only [sz0, sz1, sz2, sz3, sz4, sz5, sz6, sz7, sz8, sz9, sz10, sz11, sz12, sz13, sz14, e_var, e_non, e_bl, e_int, e_str, e_glo, e_bin, e_neg, e_inv, e_nt, e_cmp, e_cmp2, e_and, e_or, e_ite, e_tup, e_lst, e_sub, e_slc, e_att, e_ccon, e_call, e_new, e_isi, e_bi, e_bm, e_mth, e_lso, e_app, e_pop, e_popAt, e_comp, es_nil, es_cons, t_and, t_or, t_nt, t_var, t_cmp, t_cmp2, t_call, t_isi, t_bi, t_bin, t_att, t_mth, t_bl, src_of, src_range1, src_range2, src_enum, src_zip, src_rev, s_expr, s_set, s_hold, s_setsub, s_setatt, s_unpack, s_ite, s_for, s_ret, s_retN, s_pass, s_brk, s_cnt, s_never, ss_nil, ss_cons, b1_ok, b2_ok, bs_ok, bE_ok, bL_ok, bT_ok, bI_ok, sE_ok, sT_ok, sI_ok, seq_nx, seq_rt, fite_t, fite_f, gite_t, gite_f, fnot_e, gexpr_e, gret_e, fcon_e, rdc_v, rdc_o, rdc_b, rd_v, rd_o, rd_i, rd_l, m1_e, op1_e, m2_e, op2_e, mk_t, mk_f, okB_e, m2c_e, fcmp_e, m3_t, m3_f, mc2_e, fcmp2_e, cmp2_e, nt_e, neg_e, tru_bl, tru_int, tru_non, tru1_e, consO_e, rdcs_n, rdcs_c, bi1_e, mbi_e, nxO_e, toVal_v, toVal_o, toVal_b, mval_o, mval_v, toVals_n, toVals_c, tvc_e, mapd_e, gset_e, mset_e, ghold_o, ghold_v, asg_e, masg_u, masg_v, masg_o, gsub_e, fsub_e, gput_e, mput_e, mput2_e, mput3_e, fapp_e, app1_e, mapp_e, mapp2_e, mapp3_e, ownAt_e, mown_o, mown_i, isLst_e, mlst_e, varE_e, mvar_v, mvar_o, mvar_i, mvar_l, frng_e, mrng_e, mrng2_e, fof_e, mof_e, mof2_e, toSrc_v, toSrc_o, toSrc_b, msrc_o, msrc_l, items_l, items_t, ftup_e, flst_e, mtup_e, mlis_e, mtup2_e, fand_e, mand_t, mand_f, ret_v, ret_o, ret_b, mret_o, mret_ln, partR_t, partR_f, callG_e, mcall_e, mcall2_v, mcall2_o, mcall3_e, newG_e, mnew_e, mnew2_e, mnew3_e, give_n, give_c, gvc_e, gvm_e, give_v, mg1_e, give_rv, give_ro, give_rb, mgr_o, mgr_i, mgr_l, give_mo, give_mb, mgm_o, mgm_i, tb_n, tb_0, tb_i, tb_u, mtb_e, mtb2_e, fin_n, fin_r, mfin_e, mou_e, ou_n, ou_i, ou_v, ou_l, gatt_e, matt_e, matt2_e, matt3_e, getI0, getI1, setI0, setI1, omap_s, obind_s, nic_n, nic_i, bAdd, bSub, cLt, cLe, cGt, cGe, cEq, cNe, Bool.not_true, Bool.not_false, List.cons_append, List.nil_append, decide_eq_true h1, decide_eq_true h2]
theorem check_opposite_run (n h : Nat) (g : Nat → Int) (h7 : h ≤ 7) (ho : ∀ m, m < 2 ^ h → g (2 ^ h - 1 - m) = -g m) : callF T (n + 2) 15 [.val (.int (h : Int)), .val (.lst (tabI g (2 ^ h)))] = .ret (.val .non) [.un, .un] := by
  rw [callF_at fn_check_opposite rfl]
  simp only [fd_check_opposite, c_check_opposite, List.length_cons, List.length_nil, List.replicate, List.cons_append, List.nil_append]
  simp only [sz0, sz1, sz2, sz3, sz4, sz5, sz6, sz7, sz8, sz9, sz10, sz11, sz12, sz13, sz14, e_var, e_non, e_bl, e_int, e_str, e_glo, e_bin, e_neg, e_inv, e_nt, e_cmp, e_cmp2, e_and, e_or, e_ite, e_tup, e_lst, e_sub, e_slc, e_att, e_ccon, e_call, e_new, e_isi, e_bi, e_bm, e_mth, e_lso, e_app, e_pop, e_popAt, e_comp, es_nil, es_cons, t_and, t_or, t_nt, t_var, t_cmp, t_cmp2, t_call, t_isi, t_bi, t_bin, t_att, t_mth, t_bl, src_of, src_range1, src_range2, src_enum, src_zip, src_rev, s_expr, s_set, s_hold, s_setsub, s_setatt, s_unpack, s_ite, s_for, s_ret, s_retN, s_pass, s_brk, s_cnt, s_never, ss_nil, ss_cons, b1_ok, b2_ok, bs_ok, bE_ok, bL_ok, bT_ok, bI_ok, sE_ok, sT_ok, sI_ok, seq_nx, seq_rt, fite_t, fite_f, gite_t, gite_f, fnot_e, gexpr_e, gret_e, fcon_e, rdc_v, rdc_o, rdc_b, rd_v, rd_o, rd_i, rd_l, m1_e, op1_e, m2_e, op2_e, mk_t, mk_f, okB_e, m2c_e, fcmp_e, m3_t, m3_f, mc2_e, fcmp2_e, cmp2_e, nt_e, neg_e, tru_bl, tru_int, tru_non, tru1_e, consO_e, rdcs_n, rdcs_c, bi1_e, mbi_e, nxO_e, toVal_v, toVal_o, toVal_b, mval_o, mval_v, toVals_n, toVals_c, tvc_e, mapd_e, gset_e, mset_e, ghold_o, ghold_v, asg_e, masg_u, masg_v, masg_o, gsub_e, fsub_e, gput_e, mput_e, mput2_e, mput3_e, fapp_e, app1_e, mapp_e, mapp2_e, mapp3_e, ownAt_e, mown_o, mown_i, isLst_e, mlst_e, varE_e, mvar_v, mvar_o, mvar_i, mvar_l, frng_e, mrng_e, mrng2_e, fof_e, mof_e, mof2_e, toSrc_v, toSrc_o, toSrc_b, msrc_o, msrc_l, items_l, items_t, ftup_e, flst_e, mtup_e, mlis_e, mtup2_e, fand_e, mand_t, mand_f, ret_v, ret_o, ret_b, mret_o, mret_ln, partR_t, partR_f, callG_e, mcall_e, mcall2_v, mcall2_o, mcall3_e, newG_e, mnew_e, mnew2_e, mnew3_e, give_n, give_c, gvc_e, gvm_e, give_v, mg1_e, give_rv, give_ro, give_rb, mgr_o, mgr_i, mgr_l, give_mo, give_mb, mgm_o, mgm_i, tb_n, tb_0, tb_i, tb_u, mtb_e, mtb2_e, fin_n, fin_r, mfin_e, mou_e, ou_n, ou_i, ou_v, ou_l, gatt_e, matt_e, matt2_e, matt3_e, getI0, getI1, setI0, setI1, omap_s, obind_s, nic_n, nic_i, bAdd, bSub, cLt, cLe, cGt, cGe, cEq, cNe, Bool.not_true, Bool.not_false, List.cons_append, List.nil_append, shl1 (show h ≤ 1000000 by omega), rngOk_pow h7, Int.toNat_natCast]
  generalize hL : forB _ _ _ _ _ _ = L
  obtain ⟨ρ', e, s, f, eρ⟩ : ∃ ρ', L = .nx ρ' ∧ ∃ s, FreeS s ∧ ρ' = [.val (.int (h : Int)), .val (.lst (tabI g (2 ^ h))), s] := by
    rw [← hL]
    refine for0 (fun k ρ' => ∃ s, FreeS s ∧ ρ' = [.val (.int (h : Int)), .val (.lst (tabI g (2 ^ h))), s]) ⟨_, FreeS.un, rfl⟩ fun k ρ hk ⟨s, f, e⟩ => ?_
    subst e
    refine ⟨_, _, asg_free rfl f, ?_, .val (.int (k : Int)), FreeS.val, rfl⟩
    have d : decide (g k = -g (2 ^ h - 1 - k)) = true := decide_eq_true (by rw [ho k hk]; omega)
    simp only [sz0, sz1, sz2, sz3, sz4, sz5, sz6, sz7, sz8, sz9, sz10, sz11, sz12, sz13, sz14, e_var, e_non, e_bl, e_int, e_str, e_glo, e_bin, e_neg, e_inv, e_nt, e_cmp, e_cmp2, e_and, e_or, e_ite, e_tup, e_lst, e_sub, e_slc, e_att, e_ccon, e_call, e_new, e_isi, e_bi, e_bm, e_mth, e_lso, e_app, e_pop, e_popAt, e_comp, es_nil, es_cons, t_and, t_or, t_nt, t_var, t_cmp, t_cmp2, t_call, t_isi, t_bi, t_bin, t_att, t_mth, t_bl, src_of, src_range1, src_range2, src_enum, src_zip, src_rev, s_expr, s_set, s_hold, s_setsub, s_setatt, s_unpack, s_ite, s_for, s_ret, s_retN, s_pass, s_brk, s_cnt, s_never, ss_nil, ss_cons, b1_ok, b2_ok, bs_ok, bE_ok, bL_ok, bT_ok, bI_ok, sE_ok, sT_ok, sI_ok, seq_nx, seq_rt, fite_t, fite_f, gite_t, gite_f, fnot_e, gexpr_e, gret_e, fcon_e, rdc_v, rdc_o, rdc_b, rd_v, rd_o, rd_i, rd_l, m1_e, op1_e, m2_e, op2_e, mk_t, mk_f, okB_e, m2c_e, fcmp_e, m3_t, m3_f, mc2_e, fcmp2_e, cmp2_e, nt_e, neg_e, tru_bl, tru_int, tru_non, tru1_e, consO_e, rdcs_n, rdcs_c, bi1_e, mbi_e, nxO_e, toVal_v, toVal_o, toVal_b, mval_o, mval_v, toVals_n, toVals_c, tvc_e, mapd_e, gset_e, mset_e, ghold_o, ghold_v, asg_e, masg_u, masg_v, masg_o, gsub_e, fsub_e, gput_e, mput_e, mput2_e, mput3_e, fapp_e, app1_e, mapp_e, mapp2_e, mapp3_e, ownAt_e, mown_o, mown_i, isLst_e, mlst_e, varE_e, mvar_v, mvar_o, mvar_i, mvar_l, frng_e, mrng_e, mrng2_e, fof_e, mof_e, mof2_e, toSrc_v, toSrc_o, toSrc_b, msrc_o, msrc_l, items_l, items_t, ftup_e, flst_e, mtup_e, mlis_e, mtup2_e, fand_e, mand_t, mand_f, ret_v, ret_o, ret_b, mret_o, mret_ln, partR_t, partR_f, callG_e, mcall_e, mcall2_v, mcall2_o, mcall3_e, newG_e, mnew_e, mnew2_e, mnew3_e, give_n, give_c, gvc_e, gvm_e, give_v, mg1_e, give_rv, give_ro, give_rb, mgr_o, mgr_i, mgr_l, give_mo, give_mb, mgm_o, mgm_i, tb_n, tb_0, tb_i, tb_u, mtb_e, mtb2_e, fin_n, fin_r, mfin_e, mou_e, ou_n, ou_i, ou_v, ou_l, gatt_e, matt_e, matt2_e, matt3_e, getI0, getI1, setI0, setI1, omap_s, obind_s, nic_n, nic_i, bAdd, bSub, cLt, cLe, cGt, cGe, cEq, cNe, Bool.not_true, Bool.not_false, List.cons_append, List.nil_append, fn_law, fn_Scale___init, fn_law_digit, cd_law_digit, fn_law_by_amounts, cd_law_by_amounts, fn_law_due_halves, cd_law_due_halves, fn_additive, cd_additive, fn_law_same, cd_law_same, fn_law_push, cd_law_push, fn_law_pushed, cd_law_pushed, fn_law_halves, cd_law_halves, fn_law_adds_up, cd_law_adds_up, fn_idle_hands, cd_idle_hands, fn_law_idle, cd_law_idle, fn_check_hands, cd_check_hands, fn_check_length, cd_check_length, fn_check_opposite, cd_check_opposite, fn_check_rising, cd_check_rising, fn_check_number, cd_check_number, fn_law_amounts, cd_law_amounts, fn_law_fits, cd_law_fits, fn_amounts_of, cd_amounts_of, fn_Ratio___init, fn_rest_mask, cd_rest_mask, fn_with_hand, cd_with_hand, fn_has_hand, cd_has_hand, nd_Scale_2, nd_Ratio_1, nd_Ratio_2, at_Scale_hands, at_Scale_numbers, li_Scale, at_Ratio_top, at_Ratio_bottom, cc_Scale_MOST, gl_MOST_HANDS, gl_MOST_PART, is_Scale_non, is_Scale_bl, is_Scale_int, is_Scale_str, is_Scale_lst, is_Scale_tup, is_Scale_Scale, is_Scale_Ratio, is_bool_non, is_bool_bl, is_bool_int, is_bool_str, is_bool_lst, is_bool_tup, is_bool_Scale, is_bool_Ratio, is_int_non, is_int_bl, is_int_int, is_int_str, is_int_lst, is_int_tup, is_int_Scale, is_int_Ratio, is_str_non, is_str_bl, is_str_int, is_str_str, is_str_lst, is_str_tup, is_str_Scale, is_str_Ratio, is_list_non, is_list_bl, is_list_int, is_list_str, is_list_lst, is_list_tup, is_list_Scale, is_list_Ratio, is_tuple_non, is_tuple_bl, is_tuple_int, is_tuple_str, is_tuple_lst, is_tuple_tup, is_tuple_Scale, is_tuple_Ratio, is_Ratio_non, is_Ratio_bl, is_Ratio_int, is_Ratio_str, is_Ratio_lst, is_Ratio_tup, is_Ratio_Scale, is_Ratio_Ratio, rest_mask_run n h k (by omega) hk, sub2_tab hk, sub2_tab (show 2 ^ h - 1 - k < 2 ^ h by omega), d]
  subst e eρ
  simp only [sz0, sz1, sz2, sz3, sz4, sz5, sz6, sz7, sz8, sz9, sz10, sz11, sz12, sz13, sz14, e_var, e_non, e_bl, e_int, e_str, e_glo, e_bin, e_neg, e_inv, e_nt, e_cmp, e_cmp2, e_and, e_or, e_ite, e_tup, e_lst, e_sub, e_slc, e_att, e_ccon, e_call, e_new, e_isi, e_bi, e_bm, e_mth, e_lso, e_app, e_pop, e_popAt, e_comp, es_nil, es_cons, t_and, t_or, t_nt, t_var, t_cmp, t_cmp2, t_call, t_isi, t_bi, t_bin, t_att, t_mth, t_bl, src_of, src_range1, src_range2, src_enum, src_zip, src_rev, s_expr, s_set, s_hold, s_setsub, s_setatt, s_unpack, s_ite, s_for, s_ret, s_retN, s_pass, s_brk, s_cnt, s_never, ss_nil, ss_cons, b1_ok, b2_ok, bs_ok, bE_ok, bL_ok, bT_ok, bI_ok, sE_ok, sT_ok, sI_ok, seq_nx, seq_rt, fite_t, fite_f, gite_t, gite_f, fnot_e, gexpr_e, gret_e, fcon_e, rdc_v, rdc_o, rdc_b, rd_v, rd_o, rd_i, rd_l, m1_e, op1_e, m2_e, op2_e, mk_t, mk_f, okB_e, m2c_e, fcmp_e, m3_t, m3_f, mc2_e, fcmp2_e, cmp2_e, nt_e, neg_e, tru_bl, tru_int, tru_non, tru1_e, consO_e, rdcs_n, rdcs_c, bi1_e, mbi_e, nxO_e, toVal_v, toVal_o, toVal_b, mval_o, mval_v, toVals_n, toVals_c, tvc_e, mapd_e, gset_e, mset_e, ghold_o, ghold_v, asg_e, masg_u, masg_v, masg_o, gsub_e, fsub_e, gput_e, mput_e, mput2_e, mput3_e, fapp_e, app1_e, mapp_e, mapp2_e, mapp3_e, ownAt_e, mown_o, mown_i, isLst_e, mlst_e, varE_e, mvar_v, mvar_o, mvar_i, mvar_l, frng_e, mrng_e, mrng2_e, fof_e, mof_e, mof2_e, toSrc_v, toSrc_o, toSrc_b, msrc_o, msrc_l, items_l, items_t, ftup_e, flst_e, mtup_e, mlis_e, mtup2_e, fand_e, mand_t, mand_f, ret_v, ret_o, ret_b, mret_o, mret_ln, partR_t, partR_f, callG_e, mcall_e, mcall2_v, mcall2_o, mcall3_e, newG_e, mnew_e, mnew2_e, mnew3_e, give_n, give_c, gvc_e, gvm_e, give_v, mg1_e, give_rv, give_ro, give_rb, mgr_o, mgr_i, mgr_l, give_mo, give_mb, mgm_o, mgm_i, tb_n, tb_0, tb_i, tb_u, mtb_e, mtb2_e, fin_n, fin_r, mfin_e, mou_e, ou_n, ou_i, ou_v, ou_l, gatt_e, matt_e, matt2_e, matt3_e, getI0, getI1, setI0, setI1, omap_s, obind_s, nic_n, nic_i, bAdd, bSub, cLt, cLe, cGt, cGe, cEq, cNe, Bool.not_true, Bool.not_false, List.cons_append, List.nil_append]
theorem check_rising_run (n h : Nat) (g : Nat → Int) (h7 : h ≤ 7) (hr : ∀ m j, m < 2 ^ h → j < h → g m ≤ g (m ||| 2 ^ j)) : callF T (n + 2) 16 [.val (.int (h : Int)), .val (.lst (tabI g (2 ^ h)))] = .ret (.val .non) [.un, .un] := by
  rw [callF_at fn_check_rising rfl]
  simp only [fd_check_rising, c_check_rising, List.length_cons, List.length_nil, List.replicate, List.cons_append, List.nil_append]
  have rh : rngOk (h : Int) = true := rngOk_of (by omega) (by omega)
  simp only [sz0, sz1, sz2, sz3, sz4, sz5, sz6, sz7, sz8, sz9, sz10, sz11, sz12, sz13, sz14, e_var, e_non, e_bl, e_int, e_str, e_glo, e_bin, e_neg, e_inv, e_nt, e_cmp, e_cmp2, e_and, e_or, e_ite, e_tup, e_lst, e_sub, e_slc, e_att, e_ccon, e_call, e_new, e_isi, e_bi, e_bm, e_mth, e_lso, e_app, e_pop, e_popAt, e_comp, es_nil, es_cons, t_and, t_or, t_nt, t_var, t_cmp, t_cmp2, t_call, t_isi, t_bi, t_bin, t_att, t_mth, t_bl, src_of, src_range1, src_range2, src_enum, src_zip, src_rev, s_expr, s_set, s_hold, s_setsub, s_setatt, s_unpack, s_ite, s_for, s_ret, s_retN, s_pass, s_brk, s_cnt, s_never, ss_nil, ss_cons, b1_ok, b2_ok, bs_ok, bE_ok, bL_ok, bT_ok, bI_ok, sE_ok, sT_ok, sI_ok, seq_nx, seq_rt, fite_t, fite_f, gite_t, gite_f, fnot_e, gexpr_e, gret_e, fcon_e, rdc_v, rdc_o, rdc_b, rd_v, rd_o, rd_i, rd_l, m1_e, op1_e, m2_e, op2_e, mk_t, mk_f, okB_e, m2c_e, fcmp_e, m3_t, m3_f, mc2_e, fcmp2_e, cmp2_e, nt_e, neg_e, tru_bl, tru_int, tru_non, tru1_e, consO_e, rdcs_n, rdcs_c, bi1_e, mbi_e, nxO_e, toVal_v, toVal_o, toVal_b, mval_o, mval_v, toVals_n, toVals_c, tvc_e, mapd_e, gset_e, mset_e, ghold_o, ghold_v, asg_e, masg_u, masg_v, masg_o, gsub_e, fsub_e, gput_e, mput_e, mput2_e, mput3_e, fapp_e, app1_e, mapp_e, mapp2_e, mapp3_e, ownAt_e, mown_o, mown_i, isLst_e, mlst_e, varE_e, mvar_v, mvar_o, mvar_i, mvar_l, frng_e, mrng_e, mrng2_e, fof_e, mof_e, mof2_e, toSrc_v, toSrc_o, toSrc_b, msrc_o, msrc_l, items_l, items_t, ftup_e, flst_e, mtup_e, mlis_e, mtup2_e, fand_e, mand_t, mand_f, ret_v, ret_o, ret_b, mret_o, mret_ln, partR_t, partR_f, callG_e, mcall_e, mcall2_v, mcall2_o, mcall3_e, newG_e, mnew_e, mnew2_e, mnew3_e, give_n, give_c, gvc_e, gvm_e, give_v, mg1_e, give_rv, give_ro, give_rb, mgr_o, mgr_i, mgr_l, give_mo, give_mb, mgm_o, mgm_i, tb_n, tb_0, tb_i, tb_u, mtb_e, mtb2_e, fin_n, fin_r, mfin_e, mou_e, ou_n, ou_i, ou_v, ou_l, gatt_e, matt_e, matt2_e, matt3_e, getI0, getI1, setI0, setI1, omap_s, obind_s, nic_n, nic_i, bAdd, bSub, cLt, cLe, cGt, cGe, cEq, cNe, Bool.not_true, Bool.not_false, List.cons_append, List.nil_append, shl1 (show h ≤ 1000000 by omega), rngOk_pow h7, Int.toNat_natCast]
  generalize hL : forB _ _ _ _ _ _ = L
  obtain ⟨ρ', e, s, s', f, f', eρ⟩ : ∃ ρ', L = .nx ρ' ∧ ∃ s s', FreeS s ∧ FreeS s' ∧ ρ' = [.val (.int (h : Int)), .val (.lst (tabI g (2 ^ h))), s, s'] := by
    rw [← hL]
    refine for0 (fun k ρ' => ∃ s s', FreeS s ∧ FreeS s' ∧ ρ' = [.val (.int (h : Int)), .val (.lst (tabI g (2 ^ h))), s, s']) ⟨_, _, FreeS.un, FreeS.un, rfl⟩ fun k ρ hk ⟨s, s', f, f', e⟩ => ?_
    subst e
    obtain ⟨ρ2, e2, s2, f2, eρ2⟩ : ∃ ρ2, forB T (callF T (n + 1)) (.name 3) (.cons (.ite (.cmp .Gt (.sub (.var 1) (.var 2)) (.sub (.var 1) (.call 23 (.cons (.var 2) (.cons (.var 3) (.nil)))))) (.cons (.never) (.nil)) (.nil)) (.nil)) (iotaD 0 h)
        [.val (.int (h : Int)), .val (.lst (tabI g (2 ^ h))), .val (.int (k : Int)), s'] = .nx ρ2 ∧ ∃ s2, FreeS s2 ∧ ρ2 = [.val (.int (h : Int)), .val (.lst (tabI g (2 ^ h))), .val (.int (k : Int)), s2] := by
      refine for0 (fun j ρ' => ∃ s2, FreeS s2 ∧ ρ' = [.val (.int (h : Int)), .val (.lst (tabI g (2 ^ h))), .val (.int (k : Int)), s2]) ⟨_, f', rfl⟩ fun j ρ hj ⟨s2, f2, e⟩ => ?_
      subst e
      refine ⟨_, _, asg_free rfl f2, ?_, .val (.int (j : Int)), FreeS.val, rfl⟩
      have d : decide (g (k ||| 2 ^ j) < g k) = false := decide_eq_false (by have := hr k j hk hj; omega)
      simp only [sz0, sz1, sz2, sz3, sz4, sz5, sz6, sz7, sz8, sz9, sz10, sz11, sz12, sz13, sz14, e_var, e_non, e_bl, e_int, e_str, e_glo, e_bin, e_neg, e_inv, e_nt, e_cmp, e_cmp2, e_and, e_or, e_ite, e_tup, e_lst, e_sub, e_slc, e_att, e_ccon, e_call, e_new, e_isi, e_bi, e_bm, e_mth, e_lso, e_app, e_pop, e_popAt, e_comp, es_nil, es_cons, t_and, t_or, t_nt, t_var, t_cmp, t_cmp2, t_call, t_isi, t_bi, t_bin, t_att, t_mth, t_bl, src_of, src_range1, src_range2, src_enum, src_zip, src_rev, s_expr, s_set, s_hold, s_setsub, s_setatt, s_unpack, s_ite, s_for, s_ret, s_retN, s_pass, s_brk, s_cnt, s_never, ss_nil, ss_cons, b1_ok, b2_ok, bs_ok, bE_ok, bL_ok, bT_ok, bI_ok, sE_ok, sT_ok, sI_ok, seq_nx, seq_rt, fite_t, fite_f, gite_t, gite_f, fnot_e, gexpr_e, gret_e, fcon_e, rdc_v, rdc_o, rdc_b, rd_v, rd_o, rd_i, rd_l, m1_e, op1_e, m2_e, op2_e, mk_t, mk_f, okB_e, m2c_e, fcmp_e, m3_t, m3_f, mc2_e, fcmp2_e, cmp2_e, nt_e, neg_e, tru_bl, tru_int, tru_non, tru1_e, consO_e, rdcs_n, rdcs_c, bi1_e, mbi_e, nxO_e, toVal_v, toVal_o, toVal_b, mval_o, mval_v, toVals_n, toVals_c, tvc_e, mapd_e, gset_e, mset_e, ghold_o, ghold_v, asg_e, masg_u, masg_v, masg_o, gsub_e, fsub_e, gput_e, mput_e, mput2_e, mput3_e, fapp_e, app1_e, mapp_e, mapp2_e, mapp3_e, ownAt_e, mown_o, mown_i, isLst_e, mlst_e, varE_e, mvar_v, mvar_o, mvar_i, mvar_l, frng_e, mrng_e, mrng2_e, fof_e, mof_e, mof2_e, toSrc_v, toSrc_o, toSrc_b, msrc_o, msrc_l, items_l, items_t, ftup_e, flst_e, mtup_e, mlis_e, mtup2_e, fand_e, mand_t, mand_f, ret_v, ret_o, ret_b, mret_o, mret_ln, partR_t, partR_f, callG_e, mcall_e, mcall2_v, mcall2_o, mcall3_e, newG_e, mnew_e, mnew2_e, mnew3_e, give_n, give_c, gvc_e, gvm_e, give_v, mg1_e, give_rv, give_ro, give_rb, mgr_o, mgr_i, mgr_l, give_mo, give_mb, mgm_o, mgm_i, tb_n, tb_0, tb_i, tb_u, mtb_e, mtb2_e, fin_n, fin_r, mfin_e, mou_e, ou_n, ou_i, ou_v, ou_l, gatt_e, matt_e, matt2_e, matt3_e, getI0, getI1, setI0, setI1, omap_s, obind_s, nic_n, nic_i, bAdd, bSub, cLt, cLe, cGt, cGe, cEq, cNe, Bool.not_true, Bool.not_false, List.cons_append, List.nil_append, fn_law, fn_Scale___init, fn_law_digit, cd_law_digit, fn_law_by_amounts, cd_law_by_amounts, fn_law_due_halves, cd_law_due_halves, fn_additive, cd_additive, fn_law_same, cd_law_same, fn_law_push, cd_law_push, fn_law_pushed, cd_law_pushed, fn_law_halves, cd_law_halves, fn_law_adds_up, cd_law_adds_up, fn_idle_hands, cd_idle_hands, fn_law_idle, cd_law_idle, fn_check_hands, cd_check_hands, fn_check_length, cd_check_length, fn_check_opposite, cd_check_opposite, fn_check_rising, cd_check_rising, fn_check_number, cd_check_number, fn_law_amounts, cd_law_amounts, fn_law_fits, cd_law_fits, fn_amounts_of, cd_amounts_of, fn_Ratio___init, fn_rest_mask, cd_rest_mask, fn_with_hand, cd_with_hand, fn_has_hand, cd_has_hand, nd_Scale_2, nd_Ratio_1, nd_Ratio_2, at_Scale_hands, at_Scale_numbers, li_Scale, at_Ratio_top, at_Ratio_bottom, cc_Scale_MOST, gl_MOST_HANDS, gl_MOST_PART, is_Scale_non, is_Scale_bl, is_Scale_int, is_Scale_str, is_Scale_lst, is_Scale_tup, is_Scale_Scale, is_Scale_Ratio, is_bool_non, is_bool_bl, is_bool_int, is_bool_str, is_bool_lst, is_bool_tup, is_bool_Scale, is_bool_Ratio, is_int_non, is_int_bl, is_int_int, is_int_str, is_int_lst, is_int_tup, is_int_Scale, is_int_Ratio, is_str_non, is_str_bl, is_str_int, is_str_str, is_str_lst, is_str_tup, is_str_Scale, is_str_Ratio, is_list_non, is_list_bl, is_list_int, is_list_str, is_list_lst, is_list_tup, is_list_Scale, is_list_Ratio, is_tuple_non, is_tuple_bl, is_tuple_int, is_tuple_str, is_tuple_lst, is_tuple_tup, is_tuple_Scale, is_tuple_Ratio, is_Ratio_non, is_Ratio_bl, is_Ratio_int, is_Ratio_str, is_Ratio_lst, is_Ratio_tup, is_Ratio_Scale, is_Ratio_Ratio, with_hand_run n k j (by omega), sub2_tab hk, sub2_tab (or_lt hk hj), d]
    refine ⟨_, ρ2, asg_free rfl f, ?_, .val (.int (k : Int)), s2, FreeS.val, f2, eρ2⟩
    simp only [sz0, sz1, sz2, sz3, sz4, sz5, sz6, sz7, sz8, sz9, sz10, sz11, sz12, sz13, sz14, e_var, e_non, e_bl, e_int, e_str, e_glo, e_bin, e_neg, e_inv, e_nt, e_cmp, e_cmp2, e_and, e_or, e_ite, e_tup, e_lst, e_sub, e_slc, e_att, e_ccon, e_call, e_new, e_isi, e_bi, e_bm, e_mth, e_lso, e_app, e_pop, e_popAt, e_comp, es_nil, es_cons, t_and, t_or, t_nt, t_var, t_cmp, t_cmp2, t_call, t_isi, t_bi, t_bin, t_att, t_mth, t_bl, src_of, src_range1, src_range2, src_enum, src_zip, src_rev, s_expr, s_set, s_hold, s_setsub, s_setatt, s_unpack, s_ite, s_for, s_ret, s_retN, s_pass, s_brk, s_cnt, s_never, ss_nil, ss_cons, b1_ok, b2_ok, bs_ok, bE_ok, bL_ok, bT_ok, bI_ok, sE_ok, sT_ok, sI_ok, seq_nx, seq_rt, fite_t, fite_f, gite_t, gite_f, fnot_e, gexpr_e, gret_e, fcon_e, rdc_v, rdc_o, rdc_b, rd_v, rd_o, rd_i, rd_l, m1_e, op1_e, m2_e, op2_e, mk_t, mk_f, okB_e, m2c_e, fcmp_e, m3_t, m3_f, mc2_e, fcmp2_e, cmp2_e, nt_e, neg_e, tru_bl, tru_int, tru_non, tru1_e, consO_e, rdcs_n, rdcs_c, bi1_e, mbi_e, nxO_e, toVal_v, toVal_o, toVal_b, mval_o, mval_v, toVals_n, toVals_c, tvc_e, mapd_e, gset_e, mset_e, ghold_o, ghold_v, asg_e, masg_u, masg_v, masg_o, gsub_e, fsub_e, gput_e, mput_e, mput2_e, mput3_e, fapp_e, app1_e, mapp_e, mapp2_e, mapp3_e, ownAt_e, mown_o, mown_i, isLst_e, mlst_e, varE_e, mvar_v, mvar_o, mvar_i, mvar_l, frng_e, mrng_e, mrng2_e, fof_e, mof_e, mof2_e, toSrc_v, toSrc_o, toSrc_b, msrc_o, msrc_l, items_l, items_t, ftup_e, flst_e, mtup_e, mlis_e, mtup2_e, fand_e, mand_t, mand_f, ret_v, ret_o, ret_b, mret_o, mret_ln, partR_t, partR_f, callG_e, mcall_e, mcall2_v, mcall2_o, mcall3_e, newG_e, mnew_e, mnew2_e, mnew3_e, give_n, give_c, gvc_e, gvm_e, give_v, mg1_e, give_rv, give_ro, give_rb, mgr_o, mgr_i, mgr_l, give_mo, give_mb, mgm_o, mgm_i, tb_n, tb_0, tb_i, tb_u, mtb_e, mtb2_e, fin_n, fin_r, mfin_e, mou_e, ou_n, ou_i, ou_v, ou_l, gatt_e, matt_e, matt2_e, matt3_e, getI0, getI1, setI0, setI1, omap_s, obind_s, nic_n, nic_i, bAdd, bSub, cLt, cLe, cGt, cGe, cEq, cNe, Bool.not_true, Bool.not_false, List.cons_append, List.nil_append, rh, Int.toNat_natCast, e2]
  subst e eρ
  simp only [sz0, sz1, sz2, sz3, sz4, sz5, sz6, sz7, sz8, sz9, sz10, sz11, sz12, sz13, sz14, e_var, e_non, e_bl, e_int, e_str, e_glo, e_bin, e_neg, e_inv, e_nt, e_cmp, e_cmp2, e_and, e_or, e_ite, e_tup, e_lst, e_sub, e_slc, e_att, e_ccon, e_call, e_new, e_isi, e_bi, e_bm, e_mth, e_lso, e_app, e_pop, e_popAt, e_comp, es_nil, es_cons, t_and, t_or, t_nt, t_var, t_cmp, t_cmp2, t_call, t_isi, t_bi, t_bin, t_att, t_mth, t_bl, src_of, src_range1, src_range2, src_enum, src_zip, src_rev, s_expr, s_set, s_hold, s_setsub, s_setatt, s_unpack, s_ite, s_for, s_ret, s_retN, s_pass, s_brk, s_cnt, s_never, ss_nil, ss_cons, b1_ok, b2_ok, bs_ok, bE_ok, bL_ok, bT_ok, bI_ok, sE_ok, sT_ok, sI_ok, seq_nx, seq_rt, fite_t, fite_f, gite_t, gite_f, fnot_e, gexpr_e, gret_e, fcon_e, rdc_v, rdc_o, rdc_b, rd_v, rd_o, rd_i, rd_l, m1_e, op1_e, m2_e, op2_e, mk_t, mk_f, okB_e, m2c_e, fcmp_e, m3_t, m3_f, mc2_e, fcmp2_e, cmp2_e, nt_e, neg_e, tru_bl, tru_int, tru_non, tru1_e, consO_e, rdcs_n, rdcs_c, bi1_e, mbi_e, nxO_e, toVal_v, toVal_o, toVal_b, mval_o, mval_v, toVals_n, toVals_c, tvc_e, mapd_e, gset_e, mset_e, ghold_o, ghold_v, asg_e, masg_u, masg_v, masg_o, gsub_e, fsub_e, gput_e, mput_e, mput2_e, mput3_e, fapp_e, app1_e, mapp_e, mapp2_e, mapp3_e, ownAt_e, mown_o, mown_i, isLst_e, mlst_e, varE_e, mvar_v, mvar_o, mvar_i, mvar_l, frng_e, mrng_e, mrng2_e, fof_e, mof_e, mof2_e, toSrc_v, toSrc_o, toSrc_b, msrc_o, msrc_l, items_l, items_t, ftup_e, flst_e, mtup_e, mlis_e, mtup2_e, fand_e, mand_t, mand_f, ret_v, ret_o, ret_b, mret_o, mret_ln, partR_t, partR_f, callG_e, mcall_e, mcall2_v, mcall2_o, mcall3_e, newG_e, mnew_e, mnew2_e, mnew3_e, give_n, give_c, gvc_e, gvm_e, give_v, mg1_e, give_rv, give_ro, give_rb, mgr_o, mgr_i, mgr_l, give_mo, give_mb, mgm_o, mgm_i, tb_n, tb_0, tb_i, tb_u, mtb_e, mtb2_e, fin_n, fin_r, mfin_e, mou_e, ou_n, ou_i, ou_v, ou_l, gatt_e, matt_e, matt2_e, matt3_e, getI0, getI1, setI0, setI1, omap_s, obind_s, nic_n, nic_i, bAdd, bSub, cLt, cLe, cGt, cGe, cEq, cNe, Bool.not_true, Bool.not_false, List.cons_append, List.nil_append]
/-- a scale's content -/
def scaleD (h : Nat) (g : Nat → Int) : D := .ins 0 [(1, .int (h : Int)), (2, .tup (tabI g (2 ^ h)))]
theorem fl0 : (decide (([] : List (Nat × D)).length < 1000) && (T.flds 0).contains 1) = true := id rfl
theorem fl1 {a : Nat × D} : (decide ([a].length < 1000) && (T.flds 0).contains 2) = true := id rfl
theorem pt1 {a d : D} : putD 2 d [(1, a)] = [(1, a), (2, d)] := id rfl
theorem scale_run (n h : Nat) (g : Nat → Int) (h1 : 1 ≤ h) (h7 : h ≤ 7) (N : Nums h g (10 ^ 9)) : callF T (n + 3) 1 [.io (.ins 0 []), .val (.int (h : Int)), .val (.lst (tabI g (2 ^ h)))] = .ret (.val .non) [.io (scaleD h g), .un, .un] := by
  rw [callF_at fn_Scale___init rfl]
  simp only [fd_Scale___init, c_Scale___init, List.length_cons, List.length_nil, List.replicate, List.cons_append, List.nil_append]
  simp only [sz0, sz1, sz2, sz3, sz4, sz5, sz6, sz7, sz8, sz9, sz10, sz11, sz12, sz13, sz14, e_var, e_non, e_bl, e_int, e_str, e_glo, e_bin, e_neg, e_inv, e_nt, e_cmp, e_cmp2, e_and, e_or, e_ite, e_tup, e_lst, e_sub, e_slc, e_att, e_ccon, e_call, e_new, e_isi, e_bi, e_bm, e_mth, e_lso, e_app, e_pop, e_popAt, e_comp, es_nil, es_cons, t_and, t_or, t_nt, t_var, t_cmp, t_cmp2, t_call, t_isi, t_bi, t_bin, t_att, t_mth, t_bl, src_of, src_range1, src_range2, src_enum, src_zip, src_rev, s_expr, s_set, s_hold, s_setsub, s_setatt, s_unpack, s_ite, s_for, s_ret, s_retN, s_pass, s_brk, s_cnt, s_never, ss_nil, ss_cons, b1_ok, b2_ok, bs_ok, bE_ok, bL_ok, bT_ok, bI_ok, sE_ok, sT_ok, sI_ok, seq_nx, seq_rt, fite_t, fite_f, gite_t, gite_f, fnot_e, gexpr_e, gret_e, fcon_e, rdc_v, rdc_o, rdc_b, rd_v, rd_o, rd_i, rd_l, m1_e, op1_e, m2_e, op2_e, mk_t, mk_f, okB_e, m2c_e, fcmp_e, m3_t, m3_f, mc2_e, fcmp2_e, cmp2_e, nt_e, neg_e, tru_bl, tru_int, tru_non, tru1_e, consO_e, rdcs_n, rdcs_c, bi1_e, mbi_e, nxO_e, toVal_v, toVal_o, toVal_b, mval_o, mval_v, toVals_n, toVals_c, tvc_e, mapd_e, gset_e, mset_e, ghold_o, ghold_v, asg_e, masg_u, masg_v, masg_o, gsub_e, fsub_e, gput_e, mput_e, mput2_e, mput3_e, fapp_e, app1_e, mapp_e, mapp2_e, mapp3_e, ownAt_e, mown_o, mown_i, isLst_e, mlst_e, varE_e, mvar_v, mvar_o, mvar_i, mvar_l, frng_e, mrng_e, mrng2_e, fof_e, mof_e, mof2_e, toSrc_v, toSrc_o, toSrc_b, msrc_o, msrc_l, items_l, items_t, ftup_e, flst_e, mtup_e, mlis_e, mtup2_e, fand_e, mand_t, mand_f, ret_v, ret_o, ret_b, mret_o, mret_ln, partR_t, partR_f, callG_e, mcall_e, mcall2_v, mcall2_o, mcall3_e, newG_e, mnew_e, mnew2_e, mnew3_e, give_n, give_c, gvc_e, gvm_e, give_v, mg1_e, give_rv, give_ro, give_rb, mgr_o, mgr_i, mgr_l, give_mo, give_mb, mgm_o, mgm_i, tb_n, tb_0, tb_i, tb_u, mtb_e, mtb2_e, fin_n, fin_r, mfin_e, mou_e, ou_n, ou_i, ou_v, ou_l, gatt_e, matt_e, matt2_e, matt3_e, getI0, getI1, setI0, setI1, omap_s, obind_s, nic_n, nic_i, bAdd, bSub, cLt, cLe, cGt, cGe, cEq, cNe, Bool.not_true, Bool.not_false, List.cons_append, List.nil_append, fn_law, fn_Scale___init, fn_law_digit, cd_law_digit, fn_law_by_amounts, cd_law_by_amounts, fn_law_due_halves, cd_law_due_halves, fn_additive, cd_additive, fn_law_same, cd_law_same, fn_law_push, cd_law_push, fn_law_pushed, cd_law_pushed, fn_law_halves, cd_law_halves, fn_law_adds_up, cd_law_adds_up, fn_idle_hands, cd_idle_hands, fn_law_idle, cd_law_idle, fn_check_hands, cd_check_hands, fn_check_length, cd_check_length, fn_check_opposite, cd_check_opposite, fn_check_rising, cd_check_rising, fn_check_number, cd_check_number, fn_law_amounts, cd_law_amounts, fn_law_fits, cd_law_fits, fn_amounts_of, cd_amounts_of, fn_Ratio___init, fn_rest_mask, cd_rest_mask, fn_with_hand, cd_with_hand, fn_has_hand, cd_has_hand, nd_Scale_2, nd_Ratio_1, nd_Ratio_2, at_Scale_hands, at_Scale_numbers, li_Scale, at_Ratio_top, at_Ratio_bottom, cc_Scale_MOST, gl_MOST_HANDS, gl_MOST_PART, is_Scale_non, is_Scale_bl, is_Scale_int, is_Scale_str, is_Scale_lst, is_Scale_tup, is_Scale_Scale, is_Scale_Ratio, is_bool_non, is_bool_bl, is_bool_int, is_bool_str, is_bool_lst, is_bool_tup, is_bool_Scale, is_bool_Ratio, is_int_non, is_int_bl, is_int_int, is_int_str, is_int_lst, is_int_tup, is_int_Scale, is_int_Ratio, is_str_non, is_str_bl, is_str_int, is_str_str, is_str_lst, is_str_tup, is_str_Scale, is_str_Ratio, is_list_non, is_list_bl, is_list_int, is_list_str, is_list_lst, is_list_tup, is_list_Scale, is_list_Ratio, is_tuple_non, is_tuple_bl, is_tuple_int, is_tuple_str, is_tuple_lst, is_tuple_tup, is_tuple_Scale, is_tuple_Ratio, is_Ratio_non, is_Ratio_bl, is_Ratio_int, is_Ratio_str, is_Ratio_lst, is_Ratio_tup, is_Ratio_Scale, is_Ratio_Ratio, check_hands_run (n + 1) (h : Int) 7 (by omega) (by omega), bi_lenT, shl1 (show h ≤ 1000000 by omega), check_length_run (n + 1) ((2 ^ h : Nat) : Int) ((2 ^ h : Nat) : Int) ((2 ^ h : Nat) : Int) (Int.le_refl _) (Int.le_refl _)]
  generalize hL : forB _ _ _ _ _ _ = L
  obtain ⟨ρ', e, s, f, eρ⟩ : ∃ ρ', L = .nx ρ' ∧ ∃ s, FreeS s ∧ ρ' = [.io (.ins 0 []), .val (.int (h : Int)), .val (.lst (tabI g (2 ^ h))), s] := by
    rw [← hL]
    refine forTab (fun k ρ' => ∃ s, FreeS s ∧ ρ' = [.io (.ins 0 []), .val (.int (h : Int)), .val (.lst (tabI g (2 ^ h))), s]) ⟨_, FreeS.un, rfl⟩ fun k ρ hk ⟨s, f, e⟩ => ?_
    subst e
    refine ⟨_, _, asg_free rfl f, ?_, .val (.int (g k)), FreeS.val, rfl⟩
    have b := N.bd k hk
    simp only [sz0, sz1, sz2, sz3, sz4, sz5, sz6, sz7, sz8, sz9, sz10, sz11, sz12, sz13, sz14, e_var, e_non, e_bl, e_int, e_str, e_glo, e_bin, e_neg, e_inv, e_nt, e_cmp, e_cmp2, e_and, e_or, e_ite, e_tup, e_lst, e_sub, e_slc, e_att, e_ccon, e_call, e_new, e_isi, e_bi, e_bm, e_mth, e_lso, e_app, e_pop, e_popAt, e_comp, es_nil, es_cons, t_and, t_or, t_nt, t_var, t_cmp, t_cmp2, t_call, t_isi, t_bi, t_bin, t_att, t_mth, t_bl, src_of, src_range1, src_range2, src_enum, src_zip, src_rev, s_expr, s_set, s_hold, s_setsub, s_setatt, s_unpack, s_ite, s_for, s_ret, s_retN, s_pass, s_brk, s_cnt, s_never, ss_nil, ss_cons, b1_ok, b2_ok, bs_ok, bE_ok, bL_ok, bT_ok, bI_ok, sE_ok, sT_ok, sI_ok, seq_nx, seq_rt, fite_t, fite_f, gite_t, gite_f, fnot_e, gexpr_e, gret_e, fcon_e, rdc_v, rdc_o, rdc_b, rd_v, rd_o, rd_i, rd_l, m1_e, op1_e, m2_e, op2_e, mk_t, mk_f, okB_e, m2c_e, fcmp_e, m3_t, m3_f, mc2_e, fcmp2_e, cmp2_e, nt_e, neg_e, tru_bl, tru_int, tru_non, tru1_e, consO_e, rdcs_n, rdcs_c, bi1_e, mbi_e, nxO_e, toVal_v, toVal_o, toVal_b, mval_o, mval_v, toVals_n, toVals_c, tvc_e, mapd_e, gset_e, mset_e, ghold_o, ghold_v, asg_e, masg_u, masg_v, masg_o, gsub_e, fsub_e, gput_e, mput_e, mput2_e, mput3_e, fapp_e, app1_e, mapp_e, mapp2_e, mapp3_e, ownAt_e, mown_o, mown_i, isLst_e, mlst_e, varE_e, mvar_v, mvar_o, mvar_i, mvar_l, frng_e, mrng_e, mrng2_e, fof_e, mof_e, mof2_e, toSrc_v, toSrc_o, toSrc_b, msrc_o, msrc_l, items_l, items_t, ftup_e, flst_e, mtup_e, mlis_e, mtup2_e, fand_e, mand_t, mand_f, ret_v, ret_o, ret_b, mret_o, mret_ln, partR_t, partR_f, callG_e, mcall_e, mcall2_v, mcall2_o, mcall3_e, newG_e, mnew_e, mnew2_e, mnew3_e, give_n, give_c, gvc_e, gvm_e, give_v, mg1_e, give_rv, give_ro, give_rb, mgr_o, mgr_i, mgr_l, give_mo, give_mb, mgm_o, mgm_i, tb_n, tb_0, tb_i, tb_u, mtb_e, mtb2_e, fin_n, fin_r, mfin_e, mou_e, ou_n, ou_i, ou_v, ou_l, gatt_e, matt_e, matt2_e, matt3_e, getI0, getI1, setI0, setI1, omap_s, obind_s, nic_n, nic_i, bAdd, bSub, cLt, cLe, cGt, cGe, cEq, cNe, Bool.not_true, Bool.not_false, List.cons_append, List.nil_append, fn_law, fn_Scale___init, fn_law_digit, cd_law_digit, fn_law_by_amounts, cd_law_by_amounts, fn_law_due_halves, cd_law_due_halves, fn_additive, cd_additive, fn_law_same, cd_law_same, fn_law_push, cd_law_push, fn_law_pushed, cd_law_pushed, fn_law_halves, cd_law_halves, fn_law_adds_up, cd_law_adds_up, fn_idle_hands, cd_idle_hands, fn_law_idle, cd_law_idle, fn_check_hands, cd_check_hands, fn_check_length, cd_check_length, fn_check_opposite, cd_check_opposite, fn_check_rising, cd_check_rising, fn_check_number, cd_check_number, fn_law_amounts, cd_law_amounts, fn_law_fits, cd_law_fits, fn_amounts_of, cd_amounts_of, fn_Ratio___init, fn_rest_mask, cd_rest_mask, fn_with_hand, cd_with_hand, fn_has_hand, cd_has_hand, nd_Scale_2, nd_Ratio_1, nd_Ratio_2, at_Scale_hands, at_Scale_numbers, li_Scale, at_Ratio_top, at_Ratio_bottom, cc_Scale_MOST, gl_MOST_HANDS, gl_MOST_PART, is_Scale_non, is_Scale_bl, is_Scale_int, is_Scale_str, is_Scale_lst, is_Scale_tup, is_Scale_Scale, is_Scale_Ratio, is_bool_non, is_bool_bl, is_bool_int, is_bool_str, is_bool_lst, is_bool_tup, is_bool_Scale, is_bool_Ratio, is_int_non, is_int_bl, is_int_int, is_int_str, is_int_lst, is_int_tup, is_int_Scale, is_int_Ratio, is_str_non, is_str_bl, is_str_int, is_str_str, is_str_lst, is_str_tup, is_str_Scale, is_str_Ratio, is_list_non, is_list_bl, is_list_int, is_list_str, is_list_lst, is_list_tup, is_list_Scale, is_list_Ratio, is_tuple_non, is_tuple_bl, is_tuple_int, is_tuple_str, is_tuple_lst, is_tuple_tup, is_tuple_Scale, is_tuple_Ratio, is_Ratio_non, is_Ratio_bl, is_Ratio_int, is_Ratio_str, is_Ratio_lst, is_Ratio_tup, is_Ratio_Scale, is_Ratio_Ratio, check_number_run (n + 1) (g k) (-1000000000) 1000000000 (by omega) (by omega)]
  subst e eρ
  simp only [sz0, sz1, sz2, sz3, sz4, sz5, sz6, sz7, sz8, sz9, sz10, sz11, sz12, sz13, sz14, e_var, e_non, e_bl, e_int, e_str, e_glo, e_bin, e_neg, e_inv, e_nt, e_cmp, e_cmp2, e_and, e_or, e_ite, e_tup, e_lst, e_sub, e_slc, e_att, e_ccon, e_call, e_new, e_isi, e_bi, e_bm, e_mth, e_lso, e_app, e_pop, e_popAt, e_comp, es_nil, es_cons, t_and, t_or, t_nt, t_var, t_cmp, t_cmp2, t_call, t_isi, t_bi, t_bin, t_att, t_mth, t_bl, src_of, src_range1, src_range2, src_enum, src_zip, src_rev, s_expr, s_set, s_hold, s_setsub, s_setatt, s_unpack, s_ite, s_for, s_ret, s_retN, s_pass, s_brk, s_cnt, s_never, ss_nil, ss_cons, b1_ok, b2_ok, bs_ok, bE_ok, bL_ok, bT_ok, bI_ok, sE_ok, sT_ok, sI_ok, seq_nx, seq_rt, fite_t, fite_f, gite_t, gite_f, fnot_e, gexpr_e, gret_e, fcon_e, rdc_v, rdc_o, rdc_b, rd_v, rd_o, rd_i, rd_l, m1_e, op1_e, m2_e, op2_e, mk_t, mk_f, okB_e, m2c_e, fcmp_e, m3_t, m3_f, mc2_e, fcmp2_e, cmp2_e, nt_e, neg_e, tru_bl, tru_int, tru_non, tru1_e, consO_e, rdcs_n, rdcs_c, bi1_e, mbi_e, nxO_e, toVal_v, toVal_o, toVal_b, mval_o, mval_v, toVals_n, toVals_c, tvc_e, mapd_e, gset_e, mset_e, ghold_o, ghold_v, asg_e, masg_u, masg_v, masg_o, gsub_e, fsub_e, gput_e, mput_e, mput2_e, mput3_e, fapp_e, app1_e, mapp_e, mapp2_e, mapp3_e, ownAt_e, mown_o, mown_i, isLst_e, mlst_e, varE_e, mvar_v, mvar_o, mvar_i, mvar_l, frng_e, mrng_e, mrng2_e, fof_e, mof_e, mof2_e, toSrc_v, toSrc_o, toSrc_b, msrc_o, msrc_l, items_l, items_t, ftup_e, flst_e, mtup_e, mlis_e, mtup2_e, fand_e, mand_t, mand_f, ret_v, ret_o, ret_b, mret_o, mret_ln, partR_t, partR_f, callG_e, mcall_e, mcall2_v, mcall2_o, mcall3_e, newG_e, mnew_e, mnew2_e, mnew3_e, give_n, give_c, gvc_e, gvm_e, give_v, mg1_e, give_rv, give_ro, give_rb, mgr_o, mgr_i, mgr_l, give_mo, give_mb, mgm_o, mgm_i, tb_n, tb_0, tb_i, tb_u, mtb_e, mtb2_e, fin_n, fin_r, mfin_e, mou_e, ou_n, ou_i, ou_v, ou_l, gatt_e, matt_e, matt2_e, matt3_e, getI0, getI1, setI0, setI1, omap_s, obind_s, nic_n, nic_i, bAdd, bSub, cLt, cLe, cGt, cGe, cEq, cNe, Bool.not_true, Bool.not_false, List.cons_append, List.nil_append, fn_law, fn_Scale___init, fn_law_digit, cd_law_digit, fn_law_by_amounts, cd_law_by_amounts, fn_law_due_halves, cd_law_due_halves, fn_additive, cd_additive, fn_law_same, cd_law_same, fn_law_push, cd_law_push, fn_law_pushed, cd_law_pushed, fn_law_halves, cd_law_halves, fn_law_adds_up, cd_law_adds_up, fn_idle_hands, cd_idle_hands, fn_law_idle, cd_law_idle, fn_check_hands, cd_check_hands, fn_check_length, cd_check_length, fn_check_opposite, cd_check_opposite, fn_check_rising, cd_check_rising, fn_check_number, cd_check_number, fn_law_amounts, cd_law_amounts, fn_law_fits, cd_law_fits, fn_amounts_of, cd_amounts_of, fn_Ratio___init, fn_rest_mask, cd_rest_mask, fn_with_hand, cd_with_hand, fn_has_hand, cd_has_hand, nd_Scale_2, nd_Ratio_1, nd_Ratio_2, at_Scale_hands, at_Scale_numbers, li_Scale, at_Ratio_top, at_Ratio_bottom, cc_Scale_MOST, gl_MOST_HANDS, gl_MOST_PART, is_Scale_non, is_Scale_bl, is_Scale_int, is_Scale_str, is_Scale_lst, is_Scale_tup, is_Scale_Scale, is_Scale_Ratio, is_bool_non, is_bool_bl, is_bool_int, is_bool_str, is_bool_lst, is_bool_tup, is_bool_Scale, is_bool_Ratio, is_int_non, is_int_bl, is_int_int, is_int_str, is_int_lst, is_int_tup, is_int_Scale, is_int_Ratio, is_str_non, is_str_bl, is_str_int, is_str_str, is_str_lst, is_str_tup, is_str_Scale, is_str_Ratio, is_list_non, is_list_bl, is_list_int, is_list_str, is_list_lst, is_list_tup, is_list_Scale, is_list_Ratio, is_tuple_non, is_tuple_bl, is_tuple_int, is_tuple_str, is_tuple_lst, is_tuple_tup, is_tuple_Scale, is_tuple_Ratio, is_Ratio_non, is_Ratio_bl, is_Ratio_int, is_Ratio_str, is_Ratio_lst, is_Ratio_tup, is_Ratio_Scale, is_Ratio_Ratio, check_opposite_run n h g h7 N.opp, check_rising_run n h g h7 N.rise, put0, fl0, fl1, pt1, bi_tuple]
  rfl
end Wf.L10

namespace Wf.L10
open PySem PySem.Spec PyProof.Rows L2 Wf
theorem Nums.mono {h : Nat} {g : Nat → Int} {B C : Int} (N : Nums h g B) (hb : B ≤ C) : Nums h g C := ⟨N.opp, N.rise, fun m hm => by have := N.bd m hm; omega⟩
theorem pow7 {h : Nat} (h7 : h ≤ 7) : 2 ^ h ≤ 128 := Nat.pow_le_pow_right (by decide : 0 < 2) h7
theorem pow1 {h : Nat} (h1 : 1 ≤ h) : 2 ≤ 2 ^ h := Nat.le_trans (by decide) (Nat.pow_le_pow_right (by decide : 0 < 2) h1)
/-! ### pushed -/
def counts : List Int := [2, 0, 1, 3, 4, 5, 6]
def steps : List Int := [1, 2, 3, 1, 2, 3, 7, 10 ^ 6]
theorem counts_ok {r : Nat} (hr : r < 7) : ∃ c : Nat, counts[r]? = some (c : Int) ∧ c ≤ 6 := by
  rcases r with _ | _ | _ | _ | _ | _ | _ | r <;> first | omega | exact ⟨2, rfl, by decide⟩ | exact ⟨0, rfl, by decide⟩ | exact ⟨1, rfl, by decide⟩ | exact ⟨3, rfl, by decide⟩ | exact ⟨4, rfl, by decide⟩ | exact ⟨5, rfl, by decide⟩ | exact ⟨6, rfl, by decide⟩
theorem steps_ok {r : Nat} (hr : r < 8) : ∃ x : Int, steps[r]? = some x ∧ 0 ≤ x ∧ x ≤ 10 ^ 6 := by
  rcases r with _ | _ | _ | _ | _ | _ | _ | _ | r <;> first | (refine ⟨_, rfl, by decide, by decide⟩) | omega
theorem pushed_run (n h : Nat) (cs : List Int) (i : Nat) (b : Int) (h1 : 1 ≤ h) (h7 : h ≤ 7) : ∃ (i' : Nat) (b' : Int) (g : Nat → Int), Nums h g (10 ^ 9) ∧
    callF T (n + 2) 8 [.val (cellsD cs), .io (.lst [.int i, .int b]), .val (.int (h : Int)), .val (.int 2)] = .ret (.own (.lst (tabI g (2 ^ h)))) [.un, .io (.lst [.int i', .int b']), .un, .un] := by
  have p2 := pow1 h1
  have p7 := pow7 h7
  rw [callF_at fn_law_pushed rfl]
  simp only [fd_law_pushed, c_law_pushed, List.length_cons, List.length_nil, List.replicate, List.cons_append, List.nil_append]
  obtain ⟨i1, b1, r, hr, er⟩ := digit_run n cs i b 7 ⟨by decide, by decide⟩
  obtain ⟨c, hc, c6⟩ := counts_ok (r := r) (by omega)
  have hc2 : sub2 (.lst [.int 2, .int 0, .int 1, .int 3, .int 4, .int 5, .int 6]) (.int (r : Int)) = some (false, .int (c : Int)) := by
    show (atI (counts.map D.int) _).map _ = _
    rw [atI_nat (by simp [counts]; omega), List.getElem?_map, hc]; rfl
  have e1 : ((2 ^ h : Nat) : Int) - 1 + 1 = ((2 ^ h : Nat) : Int) := by omega
  simp only [sz0, sz1, sz2, sz3, sz4, sz5, sz6, sz7, sz8, sz9, sz10, sz11, sz12, sz13, sz14, e_var, e_non, e_bl, e_int, e_str, e_glo, e_bin, e_neg, e_inv, e_nt, e_cmp, e_cmp2, e_and, e_or, e_ite, e_tup, e_lst, e_sub, e_slc, e_att, e_ccon, e_call, e_new, e_isi, e_bi, e_bm, e_mth, e_lso, e_app, e_pop, e_popAt, e_comp, es_nil, es_cons, t_and, t_or, t_nt, t_var, t_cmp, t_cmp2, t_call, t_isi, t_bi, t_bin, t_att, t_mth, t_bl, src_of, src_range1, src_range2, src_enum, src_zip, src_rev, s_expr, s_set, s_hold, s_setsub, s_setatt, s_unpack, s_ite, s_for, s_ret, s_retN, s_pass, s_brk, s_cnt, s_never, ss_nil, ss_cons, b1_ok, b2_ok, bs_ok, bE_ok, bL_ok, bT_ok, bI_ok, sE_ok, sT_ok, sI_ok, seq_nx, seq_rt, fite_t, fite_f, gite_t, gite_f, fnot_e, gexpr_e, gret_e, fcon_e, rdc_v, rdc_o, rdc_b, rd_v, rd_o, rd_i, rd_l, m1_e, op1_e, m2_e, op2_e, mk_t, mk_f, okB_e, m2c_e, fcmp_e, m3_t, m3_f, mc2_e, fcmp2_e, cmp2_e, nt_e, neg_e, tru_bl, tru_int, tru_non, tru1_e, consO_e, rdcs_n, rdcs_c, bi1_e, mbi_e, nxO_e, toVal_v, toVal_o, toVal_b, mval_o, mval_v, toVals_n, toVals_c, tvc_e, mapd_e, gset_e, mset_e, ghold_o, ghold_v, asg_e, masg_u, masg_v, masg_o, gsub_e, fsub_e, gput_e, mput_e, mput2_e, mput3_e, fapp_e, app1_e, mapp_e, mapp2_e, mapp3_e, ownAt_e, mown_o, mown_i, isLst_e, mlst_e, varE_e, mvar_v, mvar_o, mvar_i, mvar_l, frng_e, mrng_e, mrng2_e, fof_e, mof_e, mof2_e, toSrc_v, toSrc_o, toSrc_b, msrc_o, msrc_l, items_l, items_t, ftup_e, flst_e, mtup_e, mlis_e, mtup2_e, fand_e, mand_t, mand_f, ret_v, ret_o, ret_b, mret_o, mret_ln, partR_t, partR_f, callG_e, mcall_e, mcall2_v, mcall2_o, mcall3_e, newG_e, mnew_e, mnew2_e, mnew3_e, give_n, give_c, gvc_e, gvm_e, give_v, mg1_e, give_rv, give_ro, give_rb, mgr_o, mgr_i, mgr_l, give_mo, give_mb, mgm_o, mgm_i, tb_n, tb_0, tb_i, tb_u, mtb_e, mtb2_e, fin_n, fin_r, mfin_e, mou_e, ou_n, ou_i, ou_v, ou_l, gatt_e, matt_e, matt2_e, matt3_e, getI0, getI1, setI0, setI1, omap_s, obind_s, nic_n, nic_i, bAdd, bSub, cLt, cLe, cGt, cGe, cEq, cNe, Bool.not_true, Bool.not_false, List.cons_append, List.nil_append, fn_law, fn_Scale___init, fn_law_digit, cd_law_digit, fn_law_by_amounts, cd_law_by_amounts, fn_law_due_halves, cd_law_due_halves, fn_additive, cd_additive, fn_law_same, cd_law_same, fn_law_push, cd_law_push, fn_law_pushed, cd_law_pushed, fn_law_halves, cd_law_halves, fn_law_adds_up, cd_law_adds_up, fn_idle_hands, cd_idle_hands, fn_law_idle, cd_law_idle, fn_check_hands, cd_check_hands, fn_check_length, cd_check_length, fn_check_opposite, cd_check_opposite, fn_check_rising, cd_check_rising, fn_check_number, cd_check_number, fn_law_amounts, cd_law_amounts, fn_law_fits, cd_law_fits, fn_amounts_of, cd_amounts_of, fn_Ratio___init, fn_rest_mask, cd_rest_mask, fn_with_hand, cd_with_hand, fn_has_hand, cd_has_hand, nd_Scale_2, nd_Ratio_1, nd_Ratio_2, at_Scale_hands, at_Scale_numbers, li_Scale, at_Ratio_top, at_Ratio_bottom, cc_Scale_MOST, gl_MOST_HANDS, gl_MOST_PART, is_Scale_non, is_Scale_bl, is_Scale_int, is_Scale_str, is_Scale_lst, is_Scale_tup, is_Scale_Scale, is_Scale_Ratio, is_bool_non, is_bool_bl, is_bool_int, is_bool_str, is_bool_lst, is_bool_tup, is_bool_Scale, is_bool_Ratio, is_int_non, is_int_bl, is_int_int, is_int_str, is_int_lst, is_int_tup, is_int_Scale, is_int_Ratio, is_str_non, is_str_bl, is_str_int, is_str_str, is_str_lst, is_str_tup, is_str_Scale, is_str_Ratio, is_list_non, is_list_bl, is_list_int, is_list_str, is_list_lst, is_list_tup, is_list_Scale, is_list_Ratio, is_tuple_non, is_tuple_bl, is_tuple_int, is_tuple_str, is_tuple_lst, is_tuple_tup, is_tuple_Scale, is_tuple_Ratio, is_Ratio_non, is_Ratio_bl, is_Ratio_int, is_Ratio_str, is_Ratio_lst, is_Ratio_tup, is_Ratio_Scale, is_Ratio_Ratio, shl1 (show h ≤ 1000000 by omega), e1, bRep (show 2 ^ h ≤ 1000 by omega), er, hc2, rngOk_of (show (0 : Int) ≤ (c : Int) by omega) (by omega), Int.toNat_natCast]
  generalize hL : forB _ _ _ _ _ _ = L
  obtain ⟨ρ', e, g, i2, b2, s6, s7, s8, N, f6, f7, f8, eρ⟩ : ∃ ρ', L = .nx ρ' ∧ ∃ (g : Nat → Int) (i2 : Nat) (b2 : Int) (s6 s7 s8 : Slot), Nums h g (10 ^ 6 * (c : Int)) ∧ FreeS s6 ∧ FreeS s7 ∧ FreeS s8 ∧
      ρ' = [.val (cellsD cs), .io (.lst [.int i2, .int b2]), .val (.int (h : Int)), .val (.int 2), .val (.int (((2 ^ h : Nat) : Int) - 1)), .own (.lst (tabI g (2 ^ h))), s6, s7, s8] := by
    rw [← hL]
    refine for0 (fun k ρ' => ∃ (g : Nat → Int) (i2 : Nat) (b2 : Int) (s6 s7 s8 : Slot), Nums h g (10 ^ 6 * (k : Int)) ∧ FreeS s6 ∧ FreeS s7 ∧ FreeS s8 ∧
      ρ' = [.val (cellsD cs), .io (.lst [.int i2, .int b2]), .val (.int (h : Int)), .val (.int 2), .val (.int (((2 ^ h : Nat) : Int) - 1)), .own (.lst (tabI g (2 ^ h))), s6, s7, s8])
      ⟨fun _ => 0, i1, b1, _, _, _, ⟨fun m hm => rfl, fun m j hm hj => Int.le_refl _, fun m hm => by simp⟩, FreeS.un, FreeS.un, FreeS.un, rfl⟩ fun k ρ hk ⟨g, i2, b2, s6, s7, s8, N, f6, f7, f8, e⟩ => ?_
    subst e
    obtain ⟨i3, b3, r2, hr2, er2⟩ := digit_run n cs i2 b2 (((2 ^ h : Nat) : Int) - 1) (by omega)
    obtain ⟨i4, b4, r3, hr3, er3⟩ := digit_run n cs i3 b3 8 ⟨by decide, by decide⟩
    obtain ⟨x, hx, x0, x6⟩ := steps_ok (r := r3) (by omega)
    have hx2 : sub2 (.lst [.int 1, .int 2, .int 3, .int 1, .int 2, .int 3, .int 7, .int (10 ^ 6)]) (.int (r3 : Int)) = some (false, .int x) := by
      show (atI (steps.map D.int) _).map _ = _
      rw [atI_nat (by simp [steps]; omega), List.getElem?_map, hx]; rfl
    obtain ⟨q, hq, q1, q2⟩ : ∃ q : Nat, (1 : Int) + ((r2 : Int) + 2 * (k : Int) + 2) % (((2 ^ h : Nat) : Int) - 1) = (q : Int) ∧ 0 < q ∧ q < 2 ^ h := by
      have a1 := Int.emod_nonneg ((r2 : Int) + 2 * (k : Int) + 2) (show ((2 ^ h : Nat) : Int) - 1 ≠ 0 by omega)
      have a2 := Int.emod_lt_of_pos ((r2 : Int) + 2 * (k : Int) + 2) (show 0 < ((2 ^ h : Nat) : Int) - 1 by omega)
      refine ⟨(1 + ((r2 : Int) + 2 * (k : Int) + 2) % (((2 ^ h : Nat) : Int) - 1)).toNat, ?_, ?_, ?_⟩ <;> omega
    have bd := N.bd q q2
    have N2 := push_nums (N.mono (C := 10 ^ 6 * ((k + 1 : Nat) : Int)) (by omega)) (v := g q + x) (by omega) q1
    refine ⟨_, _, asg_free rfl f6, ?_, _, i4, b4, .val (.int (k : Int)), .val (.int (q : Int)), .val (.int x), N2, FreeS.val, FreeS.val, FreeS.val, rfl⟩
    simp only [sz0, sz1, sz2, sz3, sz4, sz5, sz6, sz7, sz8, sz9, sz10, sz11, sz12, sz13, sz14, e_var, e_non, e_bl, e_int, e_str, e_glo, e_bin, e_neg, e_inv, e_nt, e_cmp, e_cmp2, e_and, e_or, e_ite, e_tup, e_lst, e_sub, e_slc, e_att, e_ccon, e_call, e_new, e_isi, e_bi, e_bm, e_mth, e_lso, e_app, e_pop, e_popAt, e_comp, es_nil, es_cons, t_and, t_or, t_nt, t_var, t_cmp, t_cmp2, t_call, t_isi, t_bi, t_bin, t_att, t_mth, t_bl, src_of, src_range1, src_range2, src_enum, src_zip, src_rev, s_expr, s_set, s_hold, s_setsub, s_setatt, s_unpack, s_ite, s_for, s_ret, s_retN, s_pass, s_brk, s_cnt, s_never, ss_nil, ss_cons, b1_ok, b2_ok, bs_ok, bE_ok, bL_ok, bT_ok, bI_ok, sE_ok, sT_ok, sI_ok, seq_nx, seq_rt, fite_t, fite_f, gite_t, gite_f, fnot_e, gexpr_e, gret_e, fcon_e, rdc_v, rdc_o, rdc_b, rd_v, rd_o, rd_i, rd_l, m1_e, op1_e, m2_e, op2_e, mk_t, mk_f, okB_e, m2c_e, fcmp_e, m3_t, m3_f, mc2_e, fcmp2_e, cmp2_e, nt_e, neg_e, tru_bl, tru_int, tru_non, tru1_e, consO_e, rdcs_n, rdcs_c, bi1_e, mbi_e, nxO_e, toVal_v, toVal_o, toVal_b, mval_o, mval_v, toVals_n, toVals_c, tvc_e, mapd_e, gset_e, mset_e, ghold_o, ghold_v, asg_e, masg_u, masg_v, masg_o, gsub_e, fsub_e, gput_e, mput_e, mput2_e, mput3_e, fapp_e, app1_e, mapp_e, mapp2_e, mapp3_e, ownAt_e, mown_o, mown_i, isLst_e, mlst_e, varE_e, mvar_v, mvar_o, mvar_i, mvar_l, frng_e, mrng_e, mrng2_e, fof_e, mof_e, mof2_e, toSrc_v, toSrc_o, toSrc_b, msrc_o, msrc_l, items_l, items_t, ftup_e, flst_e, mtup_e, mlis_e, mtup2_e, fand_e, mand_t, mand_f, ret_v, ret_o, ret_b, mret_o, mret_ln, partR_t, partR_f, callG_e, mcall_e, mcall2_v, mcall2_o, mcall3_e, newG_e, mnew_e, mnew2_e, mnew3_e, give_n, give_c, gvc_e, gvm_e, give_v, mg1_e, give_rv, give_ro, give_rb, mgr_o, mgr_i, mgr_l, give_mo, give_mb, mgm_o, mgm_i, tb_n, tb_0, tb_i, tb_u, mtb_e, mtb2_e, fin_n, fin_r, mfin_e, mou_e, ou_n, ou_i, ou_v, ou_l, gatt_e, matt_e, matt2_e, matt3_e, getI0, getI1, setI0, setI1, omap_s, obind_s, nic_n, nic_i, bAdd, bSub, cLt, cLe, cGt, cGe, cEq, cNe, Bool.not_true, Bool.not_false, List.cons_append, List.nil_append, fn_law, fn_Scale___init, fn_law_digit, cd_law_digit, fn_law_by_amounts, cd_law_by_amounts, fn_law_due_halves, cd_law_due_halves, fn_additive, cd_additive, fn_law_same, cd_law_same, fn_law_push, cd_law_push, fn_law_pushed, cd_law_pushed, fn_law_halves, cd_law_halves, fn_law_adds_up, cd_law_adds_up, fn_idle_hands, cd_idle_hands, fn_law_idle, cd_law_idle, fn_check_hands, cd_check_hands, fn_check_length, cd_check_length, fn_check_opposite, cd_check_opposite, fn_check_rising, cd_check_rising, fn_check_number, cd_check_number, fn_law_amounts, cd_law_amounts, fn_law_fits, cd_law_fits, fn_amounts_of, cd_amounts_of, fn_Ratio___init, fn_rest_mask, cd_rest_mask, fn_with_hand, cd_with_hand, fn_has_hand, cd_has_hand, nd_Scale_2, nd_Ratio_1, nd_Ratio_2, at_Scale_hands, at_Scale_numbers, li_Scale, at_Ratio_top, at_Ratio_bottom, cc_Scale_MOST, gl_MOST_HANDS, gl_MOST_PART, is_Scale_non, is_Scale_bl, is_Scale_int, is_Scale_str, is_Scale_lst, is_Scale_tup, is_Scale_Scale, is_Scale_Ratio, is_bool_non, is_bool_bl, is_bool_int, is_bool_str, is_bool_lst, is_bool_tup, is_bool_Scale, is_bool_Ratio, is_int_non, is_int_bl, is_int_int, is_int_str, is_int_lst, is_int_tup, is_int_Scale, is_int_Ratio, is_str_non, is_str_bl, is_str_int, is_str_str, is_str_lst, is_str_tup, is_str_Scale, is_str_Ratio, is_list_non, is_list_bl, is_list_int, is_list_str, is_list_lst, is_list_tup, is_list_Scale, is_list_Ratio, is_tuple_non, is_tuple_bl, is_tuple_int, is_tuple_str, is_tuple_lst, is_tuple_tup, is_tuple_Scale, is_tuple_Ratio, is_Ratio_non, is_Ratio_bl, is_Ratio_int, is_Ratio_str, is_Ratio_lst, is_Ratio_tup, is_Ratio_Scale, is_Ratio_Ratio, er2, er3, bi_int, bMul (show mulOk 2 (k : Int) = true from mulOk_l rfl), bMod (show (0 : Int) < ((2 ^ h : Nat) : Int) - 1 by omega), hq, masg_f f7, masg_f f8, p6, hx2, sub2_tab q2, push_run n h g q (g q + x) h1 h7 q1]
  subst e eρ
  refine ⟨i2, b2, g, N.mono (by omega), ?_⟩
  simp only [sz0, sz1, sz2, sz3, sz4, sz5, sz6, sz7, sz8, sz9, sz10, sz11, sz12, sz13, sz14, e_var, e_non, e_bl, e_int, e_str, e_glo, e_bin, e_neg, e_inv, e_nt, e_cmp, e_cmp2, e_and, e_or, e_ite, e_tup, e_lst, e_sub, e_slc, e_att, e_ccon, e_call, e_new, e_isi, e_bi, e_bm, e_mth, e_lso, e_app, e_pop, e_popAt, e_comp, es_nil, es_cons, t_and, t_or, t_nt, t_var, t_cmp, t_cmp2, t_call, t_isi, t_bi, t_bin, t_att, t_mth, t_bl, src_of, src_range1, src_range2, src_enum, src_zip, src_rev, s_expr, s_set, s_hold, s_setsub, s_setatt, s_unpack, s_ite, s_for, s_ret, s_retN, s_pass, s_brk, s_cnt, s_never, ss_nil, ss_cons, b1_ok, b2_ok, bs_ok, bE_ok, bL_ok, bT_ok, bI_ok, sE_ok, sT_ok, sI_ok, seq_nx, seq_rt, fite_t, fite_f, gite_t, gite_f, fnot_e, gexpr_e, gret_e, fcon_e, rdc_v, rdc_o, rdc_b, rd_v, rd_o, rd_i, rd_l, m1_e, op1_e, m2_e, op2_e, mk_t, mk_f, okB_e, m2c_e, fcmp_e, m3_t, m3_f, mc2_e, fcmp2_e, cmp2_e, nt_e, neg_e, tru_bl, tru_int, tru_non, tru1_e, consO_e, rdcs_n, rdcs_c, bi1_e, mbi_e, nxO_e, toVal_v, toVal_o, toVal_b, mval_o, mval_v, toVals_n, toVals_c, tvc_e, mapd_e, gset_e, mset_e, ghold_o, ghold_v, asg_e, masg_u, masg_v, masg_o, gsub_e, fsub_e, gput_e, mput_e, mput2_e, mput3_e, fapp_e, app1_e, mapp_e, mapp2_e, mapp3_e, ownAt_e, mown_o, mown_i, isLst_e, mlst_e, varE_e, mvar_v, mvar_o, mvar_i, mvar_l, frng_e, mrng_e, mrng2_e, fof_e, mof_e, mof2_e, toSrc_v, toSrc_o, toSrc_b, msrc_o, msrc_l, items_l, items_t, ftup_e, flst_e, mtup_e, mlis_e, mtup2_e, fand_e, mand_t, mand_f, ret_v, ret_o, ret_b, mret_o, mret_ln, partR_t, partR_f, callG_e, mcall_e, mcall2_v, mcall2_o, mcall3_e, newG_e, mnew_e, mnew2_e, mnew3_e, give_n, give_c, gvc_e, gvm_e, give_v, mg1_e, give_rv, give_ro, give_rb, mgr_o, mgr_i, mgr_l, give_mo, give_mb, mgm_o, mgm_i, tb_n, tb_0, tb_i, tb_u, mtb_e, mtb2_e, fin_n, fin_r, mfin_e, mou_e, ou_n, ou_i, ou_v, ou_l, gatt_e, matt_e, matt2_e, matt3_e, getI0, getI1, setI0, setI1, omap_s, obind_s, nic_n, nic_i, bAdd, bSub, cLt, cLe, cGt, cGe, cEq, cNe, Bool.not_true, Bool.not_false, List.cons_append, List.nil_append]
/-! ### amounts -/
def wo (h j : Nat) : List Nat := (List.range (2 ^ h)).filter fun m => !m.testBit j
def am (g : Nat → Int) (j m : Nat) : Int := g (m ||| 2 ^ j) - g m
theorem wo_len {h j : Nat} (h7 : h ≤ 7) : (wo h j).length ≤ 1000 := by
  have := List.length_filter_le (fun m : Nat => !m.testBit j) (List.range (2 ^ h))
  rw [List.length_range] at this
  have := pow7 h7
  unfold wo
  omega
theorem mem_wo {h j m : Nat} : m ∈ wo h j ↔ m < 2 ^ h ∧ m.testBit j = false := by
  unfold wo
  rw [List.mem_filter, List.mem_range, Bool.not_eq_true']
theorem amounts_of_run (n h : Nat) (g : Nat → Int) (j : Nat) (h7 : h ≤ 7) (hj : j < h) : callF T (n + 2) 20 [.val (scaleD h g), .val (.int (j : Int))] = .ret (.own (.lst ((wo h j).map fun m => .int (am g j m)))) [.un, .un] := by
  have p7 := pow7 h7
  rw [callF_at fn_amounts_of rfl]
  simp only [fd_amounts_of, c_amounts_of, scaleD, List.length_cons, List.length_nil, List.replicate, List.cons_append, List.nil_append]
  simp only [sz0, sz1, sz2, sz3, sz4, sz5, sz6, sz7, sz8, sz9, sz10, sz11, sz12, sz13, sz14, e_var, e_non, e_bl, e_int, e_str, e_glo, e_bin, e_neg, e_inv, e_nt, e_cmp, e_cmp2, e_and, e_or, e_ite, e_tup, e_lst, e_sub, e_slc, e_att, e_ccon, e_call, e_new, e_isi, e_bi, e_bm, e_mth, e_lso, e_app, e_pop, e_popAt, e_comp, es_nil, es_cons, t_and, t_or, t_nt, t_var, t_cmp, t_cmp2, t_call, t_isi, t_bi, t_bin, t_att, t_mth, t_bl, src_of, src_range1, src_range2, src_enum, src_zip, src_rev, s_expr, s_set, s_hold, s_setsub, s_setatt, s_unpack, s_ite, s_for, s_ret, s_retN, s_pass, s_brk, s_cnt, s_never, ss_nil, ss_cons, b1_ok, b2_ok, bs_ok, bE_ok, bL_ok, bT_ok, bI_ok, sE_ok, sT_ok, sI_ok, seq_nx, seq_rt, fite_t, fite_f, gite_t, gite_f, fnot_e, gexpr_e, gret_e, fcon_e, rdc_v, rdc_o, rdc_b, rd_v, rd_o, rd_i, rd_l, m1_e, op1_e, m2_e, op2_e, mk_t, mk_f, okB_e, m2c_e, fcmp_e, m3_t, m3_f, mc2_e, fcmp2_e, cmp2_e, nt_e, neg_e, tru_bl, tru_int, tru_non, tru1_e, consO_e, rdcs_n, rdcs_c, bi1_e, mbi_e, nxO_e, toVal_v, toVal_o, toVal_b, mval_o, mval_v, toVals_n, toVals_c, tvc_e, mapd_e, gset_e, mset_e, ghold_o, ghold_v, asg_e, masg_u, masg_v, masg_o, gsub_e, fsub_e, gput_e, mput_e, mput2_e, mput3_e, fapp_e, app1_e, mapp_e, mapp2_e, mapp3_e, ownAt_e, mown_o, mown_i, isLst_e, mlst_e, varE_e, mvar_v, mvar_o, mvar_i, mvar_l, frng_e, mrng_e, mrng2_e, fof_e, mof_e, mof2_e, toSrc_v, toSrc_o, toSrc_b, msrc_o, msrc_l, items_l, items_t, ftup_e, flst_e, mtup_e, mlis_e, mtup2_e, fand_e, mand_t, mand_f, ret_v, ret_o, ret_b, mret_o, mret_ln, partR_t, partR_f, callG_e, mcall_e, mcall2_v, mcall2_o, mcall3_e, newG_e, mnew_e, mnew2_e, mnew3_e, give_n, give_c, gvc_e, gvm_e, give_v, mg1_e, give_rv, give_ro, give_rb, mgr_o, mgr_i, mgr_l, give_mo, give_mb, mgm_o, mgm_i, tb_n, tb_0, tb_i, tb_u, mtb_e, mtb2_e, fin_n, fin_r, mfin_e, mou_e, ou_n, ou_i, ou_v, ou_l, gatt_e, matt_e, matt2_e, matt3_e, getI0, getI1, setI0, setI1, omap_s, obind_s, nic_n, nic_i, bAdd, bSub, cLt, cLe, cGt, cGe, cEq, cNe, Bool.not_true, Bool.not_false, List.cons_append, List.nil_append, fn_law, fn_Scale___init, fn_law_digit, cd_law_digit, fn_law_by_amounts, cd_law_by_amounts, fn_law_due_halves, cd_law_due_halves, fn_additive, cd_additive, fn_law_same, cd_law_same, fn_law_push, cd_law_push, fn_law_pushed, cd_law_pushed, fn_law_halves, cd_law_halves, fn_law_adds_up, cd_law_adds_up, fn_idle_hands, cd_idle_hands, fn_law_idle, cd_law_idle, fn_check_hands, cd_check_hands, fn_check_length, cd_check_length, fn_check_opposite, cd_check_opposite, fn_check_rising, cd_check_rising, fn_check_number, cd_check_number, fn_law_amounts, cd_law_amounts, fn_law_fits, cd_law_fits, fn_amounts_of, cd_amounts_of, fn_Ratio___init, fn_rest_mask, cd_rest_mask, fn_with_hand, cd_with_hand, fn_has_hand, cd_has_hand, nd_Scale_2, nd_Ratio_1, nd_Ratio_2, at_Scale_hands, at_Scale_numbers, li_Scale, at_Ratio_top, at_Ratio_bottom, cc_Scale_MOST, gl_MOST_HANDS, gl_MOST_PART, is_Scale_non, is_Scale_bl, is_Scale_int, is_Scale_str, is_Scale_lst, is_Scale_tup, is_Scale_Scale, is_Scale_Ratio, is_bool_non, is_bool_bl, is_bool_int, is_bool_str, is_bool_lst, is_bool_tup, is_bool_Scale, is_bool_Ratio, is_int_non, is_int_bl, is_int_int, is_int_str, is_int_lst, is_int_tup, is_int_Scale, is_int_Ratio, is_str_non, is_str_bl, is_str_int, is_str_str, is_str_lst, is_str_tup, is_str_Scale, is_str_Ratio, is_list_non, is_list_bl, is_list_int, is_list_str, is_list_lst, is_list_tup, is_list_Scale, is_list_Ratio, is_tuple_non, is_tuple_bl, is_tuple_int, is_tuple_str, is_tuple_lst, is_tuple_tup, is_tuple_Scale, is_tuple_Ratio, is_Ratio_non, is_Ratio_bl, is_Ratio_int, is_Ratio_str, is_Ratio_lst, is_Ratio_tup, is_Ratio_Scale, is_Ratio_Ratio, bi_lenT, rngOk_pow h7, Int.toNat_natCast]
  rw [cmpR (fun m => !m.testBit j) (fun m => .int (m : Int)) rfl FreeS.un (by omega) fun m hm => ⟨by
    simp only [sz0, sz1, sz2, sz3, sz4, sz5, sz6, sz7, sz8, sz9, sz10, sz11, sz12, sz13, sz14, e_var, e_non, e_bl, e_int, e_str, e_glo, e_bin, e_neg, e_inv, e_nt, e_cmp, e_cmp2, e_and, e_or, e_ite, e_tup, e_lst, e_sub, e_slc, e_att, e_ccon, e_call, e_new, e_isi, e_bi, e_bm, e_mth, e_lso, e_app, e_pop, e_popAt, e_comp, es_nil, es_cons, t_and, t_or, t_nt, t_var, t_cmp, t_cmp2, t_call, t_isi, t_bi, t_bin, t_att, t_mth, t_bl, src_of, src_range1, src_range2, src_enum, src_zip, src_rev, s_expr, s_set, s_hold, s_setsub, s_setatt, s_unpack, s_ite, s_for, s_ret, s_retN, s_pass, s_brk, s_cnt, s_never, ss_nil, ss_cons, b1_ok, b2_ok, bs_ok, bE_ok, bL_ok, bT_ok, bI_ok, sE_ok, sT_ok, sI_ok, seq_nx, seq_rt, fite_t, fite_f, gite_t, gite_f, fnot_e, gexpr_e, gret_e, fcon_e, rdc_v, rdc_o, rdc_b, rd_v, rd_o, rd_i, rd_l, m1_e, op1_e, m2_e, op2_e, mk_t, mk_f, okB_e, m2c_e, fcmp_e, m3_t, m3_f, mc2_e, fcmp2_e, cmp2_e, nt_e, neg_e, tru_bl, tru_int, tru_non, tru1_e, consO_e, rdcs_n, rdcs_c, bi1_e, mbi_e, nxO_e, toVal_v, toVal_o, toVal_b, mval_o, mval_v, toVals_n, toVals_c, tvc_e, mapd_e, gset_e, mset_e, ghold_o, ghold_v, asg_e, masg_u, masg_v, masg_o, gsub_e, fsub_e, gput_e, mput_e, mput2_e, mput3_e, fapp_e, app1_e, mapp_e, mapp2_e, mapp3_e, ownAt_e, mown_o, mown_i, isLst_e, mlst_e, varE_e, mvar_v, mvar_o, mvar_i, mvar_l, frng_e, mrng_e, mrng2_e, fof_e, mof_e, mof2_e, toSrc_v, toSrc_o, toSrc_b, msrc_o, msrc_l, items_l, items_t, ftup_e, flst_e, mtup_e, mlis_e, mtup2_e, fand_e, mand_t, mand_f, ret_v, ret_o, ret_b, mret_o, mret_ln, partR_t, partR_f, callG_e, mcall_e, mcall2_v, mcall2_o, mcall3_e, newG_e, mnew_e, mnew2_e, mnew3_e, give_n, give_c, gvc_e, gvm_e, give_v, mg1_e, give_rv, give_ro, give_rb, mgr_o, mgr_i, mgr_l, give_mo, give_mb, mgm_o, mgm_i, tb_n, tb_0, tb_i, tb_u, mtb_e, mtb2_e, fin_n, fin_r, mfin_e, mou_e, ou_n, ou_i, ou_v, ou_l, gatt_e, matt_e, matt2_e, matt3_e, getI0, getI1, setI0, setI1, omap_s, obind_s, nic_n, nic_i, bAdd, bSub, cLt, cLe, cGt, cGe, cEq, cNe, Bool.not_true, Bool.not_false, List.cons_append, List.nil_append, fn_law, fn_Scale___init, fn_law_digit, cd_law_digit, fn_law_by_amounts, cd_law_by_amounts, fn_law_due_halves, cd_law_due_halves, fn_additive, cd_additive, fn_law_same, cd_law_same, fn_law_push, cd_law_push, fn_law_pushed, cd_law_pushed, fn_law_halves, cd_law_halves, fn_law_adds_up, cd_law_adds_up, fn_idle_hands, cd_idle_hands, fn_law_idle, cd_law_idle, fn_check_hands, cd_check_hands, fn_check_length, cd_check_length, fn_check_opposite, cd_check_opposite, fn_check_rising, cd_check_rising, fn_check_number, cd_check_number, fn_law_amounts, cd_law_amounts, fn_law_fits, cd_law_fits, fn_amounts_of, cd_amounts_of, fn_Ratio___init, fn_rest_mask, cd_rest_mask, fn_with_hand, cd_with_hand, fn_has_hand, cd_has_hand, nd_Scale_2, nd_Ratio_1, nd_Ratio_2, at_Scale_hands, at_Scale_numbers, li_Scale, at_Ratio_top, at_Ratio_bottom, cc_Scale_MOST, gl_MOST_HANDS, gl_MOST_PART, is_Scale_non, is_Scale_bl, is_Scale_int, is_Scale_str, is_Scale_lst, is_Scale_tup, is_Scale_Scale, is_Scale_Ratio, is_bool_non, is_bool_bl, is_bool_int, is_bool_str, is_bool_lst, is_bool_tup, is_bool_Scale, is_bool_Ratio, is_int_non, is_int_bl, is_int_int, is_int_str, is_int_lst, is_int_tup, is_int_Scale, is_int_Ratio, is_str_non, is_str_bl, is_str_int, is_str_str, is_str_lst, is_str_tup, is_str_Scale, is_str_Ratio, is_list_non, is_list_bl, is_list_int, is_list_str, is_list_lst, is_list_tup, is_list_Scale, is_list_Ratio, is_tuple_non, is_tuple_bl, is_tuple_int, is_tuple_str, is_tuple_lst, is_tuple_tup, is_tuple_Scale, is_tuple_Ratio, is_Ratio_non, is_Ratio_bl, is_Ratio_int, is_Ratio_str, is_Ratio_lst, is_Ratio_tup, is_Ratio_Scale, is_Ratio_Ratio, has_hand_run n m j], fun _ => by
    simp only [sz0, sz1, sz2, sz3, sz4, sz5, sz6, sz7, sz8, sz9, sz10, sz11, sz12, sz13, sz14, e_var, e_non, e_bl, e_int, e_str, e_glo, e_bin, e_neg, e_inv, e_nt, e_cmp, e_cmp2, e_and, e_or, e_ite, e_tup, e_lst, e_sub, e_slc, e_att, e_ccon, e_call, e_new, e_isi, e_bi, e_bm, e_mth, e_lso, e_app, e_pop, e_popAt, e_comp, es_nil, es_cons, t_and, t_or, t_nt, t_var, t_cmp, t_cmp2, t_call, t_isi, t_bi, t_bin, t_att, t_mth, t_bl, src_of, src_range1, src_range2, src_enum, src_zip, src_rev, s_expr, s_set, s_hold, s_setsub, s_setatt, s_unpack, s_ite, s_for, s_ret, s_retN, s_pass, s_brk, s_cnt, s_never, ss_nil, ss_cons, b1_ok, b2_ok, bs_ok, bE_ok, bL_ok, bT_ok, bI_ok, sE_ok, sT_ok, sI_ok, seq_nx, seq_rt, fite_t, fite_f, gite_t, gite_f, fnot_e, gexpr_e, gret_e, fcon_e, rdc_v, rdc_o, rdc_b, rd_v, rd_o, rd_i, rd_l, m1_e, op1_e, m2_e, op2_e, mk_t, mk_f, okB_e, m2c_e, fcmp_e, m3_t, m3_f, mc2_e, fcmp2_e, cmp2_e, nt_e, neg_e, tru_bl, tru_int, tru_non, tru1_e, consO_e, rdcs_n, rdcs_c, bi1_e, mbi_e, nxO_e, toVal_v, toVal_o, toVal_b, mval_o, mval_v, toVals_n, toVals_c, tvc_e, mapd_e, gset_e, mset_e, ghold_o, ghold_v, asg_e, masg_u, masg_v, masg_o, gsub_e, fsub_e, gput_e, mput_e, mput2_e, mput3_e, fapp_e, app1_e, mapp_e, mapp2_e, mapp3_e, ownAt_e, mown_o, mown_i, isLst_e, mlst_e, varE_e, mvar_v, mvar_o, mvar_i, mvar_l, frng_e, mrng_e, mrng2_e, fof_e, mof_e, mof2_e, toSrc_v, toSrc_o, toSrc_b, msrc_o, msrc_l, items_l, items_t, ftup_e, flst_e, mtup_e, mlis_e, mtup2_e, fand_e, mand_t, mand_f, ret_v, ret_o, ret_b, mret_o, mret_ln, partR_t, partR_f, callG_e, mcall_e, mcall2_v, mcall2_o, mcall3_e, newG_e, mnew_e, mnew2_e, mnew3_e, give_n, give_c, gvc_e, gvm_e, give_v, mg1_e, give_rv, give_ro, give_rb, mgr_o, mgr_i, mgr_l, give_mo, give_mb, mgm_o, mgm_i, tb_n, tb_0, tb_i, tb_u, mtb_e, mtb2_e, fin_n, fin_r, mfin_e, mou_e, ou_n, ou_i, ou_v, ou_l, gatt_e, matt_e, matt2_e, matt3_e, getI0, getI1, setI0, setI1, omap_s, obind_s, nic_n, nic_i, bAdd, bSub, cLt, cLe, cGt, cGe, cEq, cNe, Bool.not_true, Bool.not_false, List.cons_append, List.nil_append]⟩]
  simp only [sz0, sz1, sz2, sz3, sz4, sz5, sz6, sz7, sz8, sz9, sz10, sz11, sz12, sz13, sz14, e_var, e_non, e_bl, e_int, e_str, e_glo, e_bin, e_neg, e_inv, e_nt, e_cmp, e_cmp2, e_and, e_or, e_ite, e_tup, e_lst, e_sub, e_slc, e_att, e_ccon, e_call, e_new, e_isi, e_bi, e_bm, e_mth, e_lso, e_app, e_pop, e_popAt, e_comp, es_nil, es_cons, t_and, t_or, t_nt, t_var, t_cmp, t_cmp2, t_call, t_isi, t_bi, t_bin, t_att, t_mth, t_bl, src_of, src_range1, src_range2, src_enum, src_zip, src_rev, s_expr, s_set, s_hold, s_setsub, s_setatt, s_unpack, s_ite, s_for, s_ret, s_retN, s_pass, s_brk, s_cnt, s_never, ss_nil, ss_cons, b1_ok, b2_ok, bs_ok, bE_ok, bL_ok, bT_ok, bI_ok, sE_ok, sT_ok, sI_ok, seq_nx, seq_rt, fite_t, fite_f, gite_t, gite_f, fnot_e, gexpr_e, gret_e, fcon_e, rdc_v, rdc_o, rdc_b, rd_v, rd_o, rd_i, rd_l, m1_e, op1_e, m2_e, op2_e, mk_t, mk_f, okB_e, m2c_e, fcmp_e, m3_t, m3_f, mc2_e, fcmp2_e, cmp2_e, nt_e, neg_e, tru_bl, tru_int, tru_non, tru1_e, consO_e, rdcs_n, rdcs_c, bi1_e, mbi_e, nxO_e, toVal_v, toVal_o, toVal_b, mval_o, mval_v, toVals_n, toVals_c, tvc_e, mapd_e, gset_e, mset_e, ghold_o, ghold_v, asg_e, masg_u, masg_v, masg_o, gsub_e, fsub_e, gput_e, mput_e, mput2_e, mput3_e, fapp_e, app1_e, mapp_e, mapp2_e, mapp3_e, ownAt_e, mown_o, mown_i, isLst_e, mlst_e, varE_e, mvar_v, mvar_o, mvar_i, mvar_l, frng_e, mrng_e, mrng2_e, fof_e, mof_e, mof2_e, toSrc_v, toSrc_o, toSrc_b, msrc_o, msrc_l, items_l, items_t, ftup_e, flst_e, mtup_e, mlis_e, mtup2_e, fand_e, mand_t, mand_f, ret_v, ret_o, ret_b, mret_o, mret_ln, partR_t, partR_f, callG_e, mcall_e, mcall2_v, mcall2_o, mcall3_e, newG_e, mnew_e, mnew2_e, mnew3_e, give_n, give_c, gvc_e, gvm_e, give_v, mg1_e, give_rv, give_ro, give_rb, mgr_o, mgr_i, mgr_l, give_mo, give_mb, mgm_o, mgm_i, tb_n, tb_0, tb_i, tb_u, mtb_e, mtb2_e, fin_n, fin_r, mfin_e, mou_e, ou_n, ou_i, ou_v, ou_l, gatt_e, matt_e, matt2_e, matt3_e, getI0, getI1, setI0, setI1, omap_s, obind_s, nic_n, nic_i, bAdd, bSub, cLt, cLe, cGt, cGe, cEq, cNe, Bool.not_true, Bool.not_false, List.cons_append, List.nil_append]
  rw [show ((List.range (2 ^ h)).filter fun m => !m.testBit j) = wo h j from rfl, cmpU (fun m => .int (m : Int)) (fun m => .int (am g j m)) rfl FreeS.un (wo_len h7) (fun a b e => by
      have : a = b := by injection e with e; omega
      rw [this]) fun m hm => by
    have hm := (mem_wo.mp hm).1
    simp only [sz0, sz1, sz2, sz3, sz4, sz5, sz6, sz7, sz8, sz9, sz10, sz11, sz12, sz13, sz14, e_var, e_non, e_bl, e_int, e_str, e_glo, e_bin, e_neg, e_inv, e_nt, e_cmp, e_cmp2, e_and, e_or, e_ite, e_tup, e_lst, e_sub, e_slc, e_att, e_ccon, e_call, e_new, e_isi, e_bi, e_bm, e_mth, e_lso, e_app, e_pop, e_popAt, e_comp, es_nil, es_cons, t_and, t_or, t_nt, t_var, t_cmp, t_cmp2, t_call, t_isi, t_bi, t_bin, t_att, t_mth, t_bl, src_of, src_range1, src_range2, src_enum, src_zip, src_rev, s_expr, s_set, s_hold, s_setsub, s_setatt, s_unpack, s_ite, s_for, s_ret, s_retN, s_pass, s_brk, s_cnt, s_never, ss_nil, ss_cons, b1_ok, b2_ok, bs_ok, bE_ok, bL_ok, bT_ok, bI_ok, sE_ok, sT_ok, sI_ok, seq_nx, seq_rt, fite_t, fite_f, gite_t, gite_f, fnot_e, gexpr_e, gret_e, fcon_e, rdc_v, rdc_o, rdc_b, rd_v, rd_o, rd_i, rd_l, m1_e, op1_e, m2_e, op2_e, mk_t, mk_f, okB_e, m2c_e, fcmp_e, m3_t, m3_f, mc2_e, fcmp2_e, cmp2_e, nt_e, neg_e, tru_bl, tru_int, tru_non, tru1_e, consO_e, rdcs_n, rdcs_c, bi1_e, mbi_e, nxO_e, toVal_v, toVal_o, toVal_b, mval_o, mval_v, toVals_n, toVals_c, tvc_e, mapd_e, gset_e, mset_e, ghold_o, ghold_v, asg_e, masg_u, masg_v, masg_o, gsub_e, fsub_e, gput_e, mput_e, mput2_e, mput3_e, fapp_e, app1_e, mapp_e, mapp2_e, mapp3_e, ownAt_e, mown_o, mown_i, isLst_e, mlst_e, varE_e, mvar_v, mvar_o, mvar_i, mvar_l, frng_e, mrng_e, mrng2_e, fof_e, mof_e, mof2_e, toSrc_v, toSrc_o, toSrc_b, msrc_o, msrc_l, items_l, items_t, ftup_e, flst_e, mtup_e, mlis_e, mtup2_e, fand_e, mand_t, mand_f, ret_v, ret_o, ret_b, mret_o, mret_ln, partR_t, partR_f, callG_e, mcall_e, mcall2_v, mcall2_o, mcall3_e, newG_e, mnew_e, mnew2_e, mnew3_e, give_n, give_c, gvc_e, gvm_e, give_v, mg1_e, give_rv, give_ro, give_rb, mgr_o, mgr_i, mgr_l, give_mo, give_mb, mgm_o, mgm_i, tb_n, tb_0, tb_i, tb_u, mtb_e, mtb2_e, fin_n, fin_r, mfin_e, mou_e, ou_n, ou_i, ou_v, ou_l, gatt_e, matt_e, matt2_e, matt3_e, getI0, getI1, setI0, setI1, omap_s, obind_s, nic_n, nic_i, bAdd, bSub, cLt, cLe, cGt, cGe, cEq, cNe, Bool.not_true, Bool.not_false, List.cons_append, List.nil_append, fn_law, fn_Scale___init, fn_law_digit, cd_law_digit, fn_law_by_amounts, cd_law_by_amounts, fn_law_due_halves, cd_law_due_halves, fn_additive, cd_additive, fn_law_same, cd_law_same, fn_law_push, cd_law_push, fn_law_pushed, cd_law_pushed, fn_law_halves, cd_law_halves, fn_law_adds_up, cd_law_adds_up, fn_idle_hands, cd_idle_hands, fn_law_idle, cd_law_idle, fn_check_hands, cd_check_hands, fn_check_length, cd_check_length, fn_check_opposite, cd_check_opposite, fn_check_rising, cd_check_rising, fn_check_number, cd_check_number, fn_law_amounts, cd_law_amounts, fn_law_fits, cd_law_fits, fn_amounts_of, cd_amounts_of, fn_Ratio___init, fn_rest_mask, cd_rest_mask, fn_with_hand, cd_with_hand, fn_has_hand, cd_has_hand, nd_Scale_2, nd_Ratio_1, nd_Ratio_2, at_Scale_hands, at_Scale_numbers, li_Scale, at_Ratio_top, at_Ratio_bottom, cc_Scale_MOST, gl_MOST_HANDS, gl_MOST_PART, is_Scale_non, is_Scale_bl, is_Scale_int, is_Scale_str, is_Scale_lst, is_Scale_tup, is_Scale_Scale, is_Scale_Ratio, is_bool_non, is_bool_bl, is_bool_int, is_bool_str, is_bool_lst, is_bool_tup, is_bool_Scale, is_bool_Ratio, is_int_non, is_int_bl, is_int_int, is_int_str, is_int_lst, is_int_tup, is_int_Scale, is_int_Ratio, is_str_non, is_str_bl, is_str_int, is_str_str, is_str_lst, is_str_tup, is_str_Scale, is_str_Ratio, is_list_non, is_list_bl, is_list_int, is_list_str, is_list_lst, is_list_tup, is_list_Scale, is_list_Ratio, is_tuple_non, is_tuple_bl, is_tuple_int, is_tuple_str, is_tuple_lst, is_tuple_tup, is_tuple_Scale, is_tuple_Ratio, is_Ratio_non, is_Ratio_bl, is_Ratio_int, is_Ratio_str, is_Ratio_lst, is_Ratio_tup, is_Ratio_Scale, is_Ratio_Ratio, with_hand_run n m j (by omega), sub2_tab hm, sub2_tab (or_lt hm hj)]
    rfl]
  simp only [sz0, sz1, sz2, sz3, sz4, sz5, sz6, sz7, sz8, sz9, sz10, sz11, sz12, sz13, sz14, e_var, e_non, e_bl, e_int, e_str, e_glo, e_bin, e_neg, e_inv, e_nt, e_cmp, e_cmp2, e_and, e_or, e_ite, e_tup, e_lst, e_sub, e_slc, e_att, e_ccon, e_call, e_new, e_isi, e_bi, e_bm, e_mth, e_lso, e_app, e_pop, e_popAt, e_comp, es_nil, es_cons, t_and, t_or, t_nt, t_var, t_cmp, t_cmp2, t_call, t_isi, t_bi, t_bin, t_att, t_mth, t_bl, src_of, src_range1, src_range2, src_enum, src_zip, src_rev, s_expr, s_set, s_hold, s_setsub, s_setatt, s_unpack, s_ite, s_for, s_ret, s_retN, s_pass, s_brk, s_cnt, s_never, ss_nil, ss_cons, b1_ok, b2_ok, bs_ok, bE_ok, bL_ok, bT_ok, bI_ok, sE_ok, sT_ok, sI_ok, seq_nx, seq_rt, fite_t, fite_f, gite_t, gite_f, fnot_e, gexpr_e, gret_e, fcon_e, rdc_v, rdc_o, rdc_b, rd_v, rd_o, rd_i, rd_l, m1_e, op1_e, m2_e, op2_e, mk_t, mk_f, okB_e, m2c_e, fcmp_e, m3_t, m3_f, mc2_e, fcmp2_e, cmp2_e, nt_e, neg_e, tru_bl, tru_int, tru_non, tru1_e, consO_e, rdcs_n, rdcs_c, bi1_e, mbi_e, nxO_e, toVal_v, toVal_o, toVal_b, mval_o, mval_v, toVals_n, toVals_c, tvc_e, mapd_e, gset_e, mset_e, ghold_o, ghold_v, asg_e, masg_u, masg_v, masg_o, gsub_e, fsub_e, gput_e, mput_e, mput2_e, mput3_e, fapp_e, app1_e, mapp_e, mapp2_e, mapp3_e, ownAt_e, mown_o, mown_i, isLst_e, mlst_e, varE_e, mvar_v, mvar_o, mvar_i, mvar_l, frng_e, mrng_e, mrng2_e, fof_e, mof_e, mof2_e, toSrc_v, toSrc_o, toSrc_b, msrc_o, msrc_l, items_l, items_t, ftup_e, flst_e, mtup_e, mlis_e, mtup2_e, fand_e, mand_t, mand_f, ret_v, ret_o, ret_b, mret_o, mret_ln, partR_t, partR_f, callG_e, mcall_e, mcall2_v, mcall2_o, mcall3_e, newG_e, mnew_e, mnew2_e, mnew3_e, give_n, give_c, gvc_e, gvm_e, give_v, mg1_e, give_rv, give_ro, give_rb, mgr_o, mgr_i, mgr_l, give_mo, give_mb, mgm_o, mgm_i, tb_n, tb_0, tb_i, tb_u, mtb_e, mtb2_e, fin_n, fin_r, mfin_e, mou_e, ou_n, ou_i, ou_v, ou_l, gatt_e, matt_e, matt2_e, matt3_e, getI0, getI1, setI0, setI1, omap_s, obind_s, nic_n, nic_i, bAdd, bSub, cLt, cLe, cGt, cGe, cEq, cNe, Bool.not_true, Bool.not_false, List.cons_append, List.nil_append]
/-! ### ratios -/
def hT (a : Int) : Int := if a % 2 = 0 then a / 2 else a
def hB (a : Int) : Int := if a % 2 = 0 then 1 else 2
def ratioD (a : Int) : D := .ins 1 [(4, .int (hT a)), (5, .int (hB a))]
theorem rl0 : (decide (([] : List (Nat × D)).length < 1000) && (T.flds 1).contains 4) = true := id rfl
theorem rl1 {a : Nat × D} : (decide ([a].length < 1000) && (T.flds 1).contains 5) = true := id rfl
theorem rt1 {a d : D} : putD 5 d [(4, a)] = [(4, a), (5, d)] := id rfl
theorem gcd2 (a : Int) : ((Nat.gcd a.natAbs (2 : Int).natAbs : Nat) : Int) = if a % 2 = 0 then 2 else 1 := by
  show ((Nat.gcd a.natAbs 2 : Nat) : Int) = _
  rw [Nat.gcd_comm, Nat.gcd_rec]
  by_cases h : a % 2 = 0
  · rw [if_pos h, show a.natAbs % 2 = 0 by omega]; rfl
  · rw [if_neg h, show a.natAbs % 2 = 1 by omega]; rfl
theorem bi_gcd {a b : Int} : biD .gcd [.int a, .int b] = some (false, .int ((Nat.gcd a.natAbs b.natAbs : Nat) : Int)) := id rfl
theorem ratio_run (n : Nat) (a : Int) (h : -(10 ^ 60) ≤ a ∧ a ≤ 10 ^ 60) : callF T (n + 2) 21 [.io (.ins 1 []), .val (.int a), .val (.int 2), .val (.bl true)] = .ret (.val .non) [.io (ratioD a), .un, .un, .un] := by
  rw [callF_at fn_Ratio___init rfl]
  simp only [fd_Ratio___init, c_Ratio___init, List.length_cons, List.length_nil, List.replicate, List.cons_append, List.nil_append]
  have hM : (10 : Int) ^ 60 = 1000000000000000000000000000000000000000000000000000000000000 := by decide
  rw [hM] at h
  have d0 : decide ((2 : Int) < 0) = false := by decide
  have dv1 : divOk 1 = true := divOk_small (by decide) (by decide)
  have dv2 : divOk 2 = true := divOk_small (by decide) (by decide)
  unfold ratioD hT hB
  by_cases ha : a % 2 = 0
  · have gg := gcd2 a
    rw [if_pos ha] at gg
    rw [if_pos ha, if_pos ha]
    simp only [sz0, sz1, sz2, sz3, sz4, sz5, sz6, sz7, sz8, sz9, sz10, sz11, sz12, sz13, sz14, e_var, e_non, e_bl, e_int, e_str, e_glo, e_bin, e_neg, e_inv, e_nt, e_cmp, e_cmp2, e_and, e_or, e_ite, e_tup, e_lst, e_sub, e_slc, e_att, e_ccon, e_call, e_new, e_isi, e_bi, e_bm, e_mth, e_lso, e_app, e_pop, e_popAt, e_comp, es_nil, es_cons, t_and, t_or, t_nt, t_var, t_cmp, t_cmp2, t_call, t_isi, t_bi, t_bin, t_att, t_mth, t_bl, src_of, src_range1, src_range2, src_enum, src_zip, src_rev, s_expr, s_set, s_hold, s_setsub, s_setatt, s_unpack, s_ite, s_for, s_ret, s_retN, s_pass, s_brk, s_cnt, s_never, ss_nil, ss_cons, b1_ok, b2_ok, bs_ok, bE_ok, bL_ok, bT_ok, bI_ok, sE_ok, sT_ok, sI_ok, seq_nx, seq_rt, fite_t, fite_f, gite_t, gite_f, fnot_e, gexpr_e, gret_e, fcon_e, rdc_v, rdc_o, rdc_b, rd_v, rd_o, rd_i, rd_l, m1_e, op1_e, m2_e, op2_e, mk_t, mk_f, okB_e, m2c_e, fcmp_e, m3_t, m3_f, mc2_e, fcmp2_e, cmp2_e, nt_e, neg_e, tru_bl, tru_int, tru_non, tru1_e, consO_e, rdcs_n, rdcs_c, bi1_e, mbi_e, nxO_e, toVal_v, toVal_o, toVal_b, mval_o, mval_v, toVals_n, toVals_c, tvc_e, mapd_e, gset_e, mset_e, ghold_o, ghold_v, asg_e, masg_u, masg_v, masg_o, gsub_e, fsub_e, gput_e, mput_e, mput2_e, mput3_e, fapp_e, app1_e, mapp_e, mapp2_e, mapp3_e, ownAt_e, mown_o, mown_i, isLst_e, mlst_e, varE_e, mvar_v, mvar_o, mvar_i, mvar_l, frng_e, mrng_e, mrng2_e, fof_e, mof_e, mof2_e, toSrc_v, toSrc_o, toSrc_b, msrc_o, msrc_l, items_l, items_t, ftup_e, flst_e, mtup_e, mlis_e, mtup2_e, fand_e, mand_t, mand_f, ret_v, ret_o, ret_b, mret_o, mret_ln, partR_t, partR_f, callG_e, mcall_e, mcall2_v, mcall2_o, mcall3_e, newG_e, mnew_e, mnew2_e, mnew3_e, give_n, give_c, gvc_e, gvm_e, give_v, mg1_e, give_rv, give_ro, give_rb, mgr_o, mgr_i, mgr_l, give_mo, give_mb, mgm_o, mgm_i, tb_n, tb_0, tb_i, tb_u, mtb_e, mtb2_e, fin_n, fin_r, mfin_e, mou_e, ou_n, ou_i, ou_v, ou_l, gatt_e, matt_e, matt2_e, matt3_e, getI0, getI1, setI0, setI1, omap_s, obind_s, nic_n, nic_i, bAdd, bSub, cLt, cLe, cGt, cGe, cEq, cNe, Bool.not_true, Bool.not_false, List.cons_append, List.nil_append, fn_law, fn_Scale___init, fn_law_digit, cd_law_digit, fn_law_by_amounts, cd_law_by_amounts, fn_law_due_halves, cd_law_due_halves, fn_additive, cd_additive, fn_law_same, cd_law_same, fn_law_push, cd_law_push, fn_law_pushed, cd_law_pushed, fn_law_halves, cd_law_halves, fn_law_adds_up, cd_law_adds_up, fn_idle_hands, cd_idle_hands, fn_law_idle, cd_law_idle, fn_check_hands, cd_check_hands, fn_check_length, cd_check_length, fn_check_opposite, cd_check_opposite, fn_check_rising, cd_check_rising, fn_check_number, cd_check_number, fn_law_amounts, cd_law_amounts, fn_law_fits, cd_law_fits, fn_amounts_of, cd_amounts_of, fn_Ratio___init, fn_rest_mask, cd_rest_mask, fn_with_hand, cd_with_hand, fn_has_hand, cd_has_hand, nd_Scale_2, nd_Ratio_1, nd_Ratio_2, at_Scale_hands, at_Scale_numbers, li_Scale, at_Ratio_top, at_Ratio_bottom, cc_Scale_MOST, gl_MOST_HANDS, gl_MOST_PART, is_Scale_non, is_Scale_bl, is_Scale_int, is_Scale_str, is_Scale_lst, is_Scale_tup, is_Scale_Scale, is_Scale_Ratio, is_bool_non, is_bool_bl, is_bool_int, is_bool_str, is_bool_lst, is_bool_tup, is_bool_Scale, is_bool_Ratio, is_int_non, is_int_bl, is_int_int, is_int_str, is_int_lst, is_int_tup, is_int_Scale, is_int_Ratio, is_str_non, is_str_bl, is_str_int, is_str_str, is_str_lst, is_str_tup, is_str_Scale, is_str_Ratio, is_list_non, is_list_bl, is_list_int, is_list_str, is_list_lst, is_list_tup, is_list_Scale, is_list_Ratio, is_tuple_non, is_tuple_bl, is_tuple_int, is_tuple_str, is_tuple_lst, is_tuple_tup, is_tuple_Scale, is_tuple_Ratio, is_Ratio_non, is_Ratio_bl, is_Ratio_int, is_Ratio_str, is_Ratio_lst, is_Ratio_tup, is_Ratio_Scale, is_Ratio_Ratio, check_number_run n a (-1000000000000000000000000000000000000000000000000000000000000) 1000000000000000000000000000000000000000000000000000000000000 h.1 h.2, check_number_run n 2 1 1000000000000000000000000000000000000000000000000000000000000 (by decide) (by decide), bi_gcd, gg, d0, bDiv dv2, put0, rl0, rl1, rt1]
    rfl
  · have gg := gcd2 a
    rw [if_neg ha] at gg
    rw [if_neg ha, if_neg ha]
    simp only [sz0, sz1, sz2, sz3, sz4, sz5, sz6, sz7, sz8, sz9, sz10, sz11, sz12, sz13, sz14, e_var, e_non, e_bl, e_int, e_str, e_glo, e_bin, e_neg, e_inv, e_nt, e_cmp, e_cmp2, e_and, e_or, e_ite, e_tup, e_lst, e_sub, e_slc, e_att, e_ccon, e_call, e_new, e_isi, e_bi, e_bm, e_mth, e_lso, e_app, e_pop, e_popAt, e_comp, es_nil, es_cons, t_and, t_or, t_nt, t_var, t_cmp, t_cmp2, t_call, t_isi, t_bi, t_bin, t_att, t_mth, t_bl, src_of, src_range1, src_range2, src_enum, src_zip, src_rev, s_expr, s_set, s_hold, s_setsub, s_setatt, s_unpack, s_ite, s_for, s_ret, s_retN, s_pass, s_brk, s_cnt, s_never, ss_nil, ss_cons, b1_ok, b2_ok, bs_ok, bE_ok, bL_ok, bT_ok, bI_ok, sE_ok, sT_ok, sI_ok, seq_nx, seq_rt, fite_t, fite_f, gite_t, gite_f, fnot_e, gexpr_e, gret_e, fcon_e, rdc_v, rdc_o, rdc_b, rd_v, rd_o, rd_i, rd_l, m1_e, op1_e, m2_e, op2_e, mk_t, mk_f, okB_e, m2c_e, fcmp_e, m3_t, m3_f, mc2_e, fcmp2_e, cmp2_e, nt_e, neg_e, tru_bl, tru_int, tru_non, tru1_e, consO_e, rdcs_n, rdcs_c, bi1_e, mbi_e, nxO_e, toVal_v, toVal_o, toVal_b, mval_o, mval_v, toVals_n, toVals_c, tvc_e, mapd_e, gset_e, mset_e, ghold_o, ghold_v, asg_e, masg_u, masg_v, masg_o, gsub_e, fsub_e, gput_e, mput_e, mput2_e, mput3_e, fapp_e, app1_e, mapp_e, mapp2_e, mapp3_e, ownAt_e, mown_o, mown_i, isLst_e, mlst_e, varE_e, mvar_v, mvar_o, mvar_i, mvar_l, frng_e, mrng_e, mrng2_e, fof_e, mof_e, mof2_e, toSrc_v, toSrc_o, toSrc_b, msrc_o, msrc_l, items_l, items_t, ftup_e, flst_e, mtup_e, mlis_e, mtup2_e, fand_e, mand_t, mand_f, ret_v, ret_o, ret_b, mret_o, mret_ln, partR_t, partR_f, callG_e, mcall_e, mcall2_v, mcall2_o, mcall3_e, newG_e, mnew_e, mnew2_e, mnew3_e, give_n, give_c, gvc_e, gvm_e, give_v, mg1_e, give_rv, give_ro, give_rb, mgr_o, mgr_i, mgr_l, give_mo, give_mb, mgm_o, mgm_i, tb_n, tb_0, tb_i, tb_u, mtb_e, mtb2_e, fin_n, fin_r, mfin_e, mou_e, ou_n, ou_i, ou_v, ou_l, gatt_e, matt_e, matt2_e, matt3_e, getI0, getI1, setI0, setI1, omap_s, obind_s, nic_n, nic_i, bAdd, bSub, cLt, cLe, cGt, cGe, cEq, cNe, Bool.not_true, Bool.not_false, List.cons_append, List.nil_append, fn_law, fn_Scale___init, fn_law_digit, cd_law_digit, fn_law_by_amounts, cd_law_by_amounts, fn_law_due_halves, cd_law_due_halves, fn_additive, cd_additive, fn_law_same, cd_law_same, fn_law_push, cd_law_push, fn_law_pushed, cd_law_pushed, fn_law_halves, cd_law_halves, fn_law_adds_up, cd_law_adds_up, fn_idle_hands, cd_idle_hands, fn_law_idle, cd_law_idle, fn_check_hands, cd_check_hands, fn_check_length, cd_check_length, fn_check_opposite, cd_check_opposite, fn_check_rising, cd_check_rising, fn_check_number, cd_check_number, fn_law_amounts, cd_law_amounts, fn_law_fits, cd_law_fits, fn_amounts_of, cd_amounts_of, fn_Ratio___init, fn_rest_mask, cd_rest_mask, fn_with_hand, cd_with_hand, fn_has_hand, cd_has_hand, nd_Scale_2, nd_Ratio_1, nd_Ratio_2, at_Scale_hands, at_Scale_numbers, li_Scale, at_Ratio_top, at_Ratio_bottom, cc_Scale_MOST, gl_MOST_HANDS, gl_MOST_PART, is_Scale_non, is_Scale_bl, is_Scale_int, is_Scale_str, is_Scale_lst, is_Scale_tup, is_Scale_Scale, is_Scale_Ratio, is_bool_non, is_bool_bl, is_bool_int, is_bool_str, is_bool_lst, is_bool_tup, is_bool_Scale, is_bool_Ratio, is_int_non, is_int_bl, is_int_int, is_int_str, is_int_lst, is_int_tup, is_int_Scale, is_int_Ratio, is_str_non, is_str_bl, is_str_int, is_str_str, is_str_lst, is_str_tup, is_str_Scale, is_str_Ratio, is_list_non, is_list_bl, is_list_int, is_list_str, is_list_lst, is_list_tup, is_list_Scale, is_list_Ratio, is_tuple_non, is_tuple_bl, is_tuple_int, is_tuple_str, is_tuple_lst, is_tuple_tup, is_tuple_Scale, is_tuple_Ratio, is_Ratio_non, is_Ratio_bl, is_Ratio_int, is_Ratio_str, is_Ratio_lst, is_Ratio_tup, is_Ratio_Scale, is_Ratio_Ratio, check_number_run n a (-1000000000000000000000000000000000000000000000000000000000000) 1000000000000000000000000000000000000000000000000000000000000 h.1 h.2, check_number_run n 2 1 1000000000000000000000000000000000000000000000000000000000000 (by decide) (by decide), bi_gcd, gg, d0, bDiv dv1, put0, rl0, rl1, rt1, Int.ediv_one]
end Wf.L10

namespace Wf.L10
open PySem PySem.Spec PyProof.Rows L2 Wf
def AllFit (h : Nat) (g : Nat → Int) : Prop := ∀ m, m < 2 ^ h → ∀ j, j < h → m.testBit j = false → am g j m = am g j 0
def odd1 (h : Nat) (g : Nat → Int) (j : Nat) : Bool := (wo h j).any fun m => !decide (am g j m = am g j 0)
theorem wo_head {h j : Nat} : ∃ r, wo h j = 0 :: r := by
  unfold wo
  obtain ⟨k, hk⟩ : ∃ k, 2 ^ h = k + 1 := ⟨2 ^ h - 1, by have := Nat.two_pow_pos h; omega⟩
  rw [hk, List.range_succ_eq_map, List.filter_cons_of_pos (by simp)]
  exact ⟨_, rfl⟩
theorem sub_head {h j : Nat} {f : Nat → D} : sub2 (.lst ((wo h j).map f)) (.int 0) = some (false, f 0) := by
  obtain ⟨r, e⟩ := wo_head (h := h) (j := j)
  rw [e]
  show (atI (f 0 :: r.map f) ((0 : Nat) : Int)).map _ = _
  rw [atI_nat (by simp)]; rfl
theorem odd1_iff {h : Nat} {g : Nat → Int} {j : Nat} : odd1 h g j = false ↔ ∀ m, m < 2 ^ h → m.testBit j = false → am g j m = am g j 0 := by
  unfold odd1
  rw [List.any_eq_false]
  constructor
  · intro q m hm hb
    have := q m (mem_wo.mpr ⟨hm, hb⟩)
    simpa using this
  · intro q m hm
    obtain ⟨h1, h2⟩ := mem_wo.mp hm
    simpa using q m h1 h2
theorem at_sc {h : Nat} {g : Nat → Int} : attD T 1 (scaleD h g) = some (false, .int (h : Int)) := id rfl
theorem additive_run (n h : Nat) (g : Nat → Int) (h7 : h ≤ 7) (hb : ∀ j, j < h → -(10 ^ 60) ≤ am g j 0 ∧ am g j 0 ≤ 10 ^ 60) :
    (AllFit h g ∧ callF T (n + 3) 5 [.val (scaleD h g)] = .ret (.own (.lst (tab (fun j => ratioD (am g j 0)) h))) [.un]) ∨ (¬ AllFit h g ∧ callF T (n + 3) 5 [.val (scaleD h g)] = .ret (.val .non) [.un]) := by
  have rh : rngOk (h : Int) = true := rngOk_of (by omega) (by omega)
  rw [callF_at fn_additive rfl]
  simp only [fd_additive, c_additive, List.length_cons, List.length_nil, List.replicate, List.cons_append, List.nil_append]
  simp only [sz0, sz1, sz2, sz3, sz4, sz5, sz6, sz7, sz8, sz9, sz10, sz11, sz12, sz13, sz14, e_var, e_non, e_bl, e_int, e_str, e_glo, e_bin, e_neg, e_inv, e_nt, e_cmp, e_cmp2, e_and, e_or, e_ite, e_tup, e_lst, e_sub, e_slc, e_att, e_ccon, e_call, e_new, e_isi, e_bi, e_bm, e_mth, e_lso, e_app, e_pop, e_popAt, e_comp, es_nil, es_cons, t_and, t_or, t_nt, t_var, t_cmp, t_cmp2, t_call, t_isi, t_bi, t_bin, t_att, t_mth, t_bl, src_of, src_range1, src_range2, src_enum, src_zip, src_rev, s_expr, s_set, s_hold, s_setsub, s_setatt, s_unpack, s_ite, s_for, s_ret, s_retN, s_pass, s_brk, s_cnt, s_never, ss_nil, ss_cons, b1_ok, b2_ok, bs_ok, bE_ok, bL_ok, bT_ok, bI_ok, sE_ok, sT_ok, sI_ok, seq_nx, seq_rt, fite_t, fite_f, gite_t, gite_f, fnot_e, gexpr_e, gret_e, fcon_e, rdc_v, rdc_o, rdc_b, rd_v, rd_o, rd_i, rd_l, m1_e, op1_e, m2_e, op2_e, mk_t, mk_f, okB_e, m2c_e, fcmp_e, m3_t, m3_f, mc2_e, fcmp2_e, cmp2_e, nt_e, neg_e, tru_bl, tru_int, tru_non, tru1_e, consO_e, rdcs_n, rdcs_c, bi1_e, mbi_e, nxO_e, toVal_v, toVal_o, toVal_b, mval_o, mval_v, toVals_n, toVals_c, tvc_e, mapd_e, gset_e, mset_e, ghold_o, ghold_v, asg_e, masg_u, masg_v, masg_o, gsub_e, fsub_e, gput_e, mput_e, mput2_e, mput3_e, fapp_e, app1_e, mapp_e, mapp2_e, mapp3_e, ownAt_e, mown_o, mown_i, isLst_e, mlst_e, varE_e, mvar_v, mvar_o, mvar_i, mvar_l, frng_e, mrng_e, mrng2_e, fof_e, mof_e, mof2_e, toSrc_v, toSrc_o, toSrc_b, msrc_o, msrc_l, items_l, items_t, ftup_e, flst_e, mtup_e, mlis_e, mtup2_e, fand_e, mand_t, mand_f, ret_v, ret_o, ret_b, mret_o, mret_ln, partR_t, partR_f, callG_e, mcall_e, mcall2_v, mcall2_o, mcall3_e, newG_e, mnew_e, mnew2_e, mnew3_e, give_n, give_c, gvc_e, gvm_e, give_v, mg1_e, give_rv, give_ro, give_rb, mgr_o, mgr_i, mgr_l, give_mo, give_mb, mgm_o, mgm_i, tb_n, tb_0, tb_i, tb_u, mtb_e, mtb2_e, fin_n, fin_r, mfin_e, mou_e, ou_n, ou_i, ou_v, ou_l, gatt_e, matt_e, matt2_e, matt3_e, getI0, getI1, setI0, setI1, omap_s, obind_s, nic_n, nic_i, bAdd, bSub, cLt, cLe, cGt, cGe, cEq, cNe, Bool.not_true, Bool.not_false, List.cons_append, List.nil_append, at_sc, rh, Int.toNat_natCast]
  generalize hL : forB _ _ _ _ _ _ = L
  have key := forT (bd := bindT (.name 2)) (body := evalSs T (callF T (n + 2)) (.cons (.set 3 (.call 20 (.cons (.var 0) (.cons (.var 2) (.nil))))) (.cons (.ite (.bi .any (.cons (.comp (.cmp .NotEq (.var 4) (.sub (.var 3) (.int 0))) (.name 4) (.of (.var 3)) (.bl true)) (.nil))) (.cons (.ret (.non)) (.nil)) (.nil)) (.cons (.expr (.app 1 (.new 1 (.cons (.sub (.var 3) (.int 0)) (.cons (.int 2) (.nil)))))) (.nil)))))
    (fun j => !odd1 h g j) (.val .non) (fun k ρ => ∃ s2 s3 s4, FreeS s2 ∧ FreeS s3 ∧ FreeS s4 ∧ ρ = [.val (scaleD h g), .own (.lst (tab (fun j => ratioD (am g j 0)) k)), s2, s3, s4]) (fun ρ => ∃ s r, ρ = s :: r)
    (n := h) (ρ := [.val (scaleD h g), .own (.lst []), .un, .un, .un]) ⟨_, _, _, FreeS.un, FreeS.un, FreeS.un, rfl⟩ fun j ρ hj ⟨s2, s3, s4, f2, f3, f4, e⟩ => by
      subst e
      refine ⟨_, asg_free rfl f2, ?_⟩
      simp only [sz0, sz1, sz2, sz3, sz4, sz5, sz6, sz7, sz8, sz9, sz10, sz11, sz12, sz13, sz14, e_var, e_non, e_bl, e_int, e_str, e_glo, e_bin, e_neg, e_inv, e_nt, e_cmp, e_cmp2, e_and, e_or, e_ite, e_tup, e_lst, e_sub, e_slc, e_att, e_ccon, e_call, e_new, e_isi, e_bi, e_bm, e_mth, e_lso, e_app, e_pop, e_popAt, e_comp, es_nil, es_cons, t_and, t_or, t_nt, t_var, t_cmp, t_cmp2, t_call, t_isi, t_bi, t_bin, t_att, t_mth, t_bl, src_of, src_range1, src_range2, src_enum, src_zip, src_rev, s_expr, s_set, s_hold, s_setsub, s_setatt, s_unpack, s_ite, s_for, s_ret, s_retN, s_pass, s_brk, s_cnt, s_never, ss_nil, ss_cons, b1_ok, b2_ok, bs_ok, bE_ok, bL_ok, bT_ok, bI_ok, sE_ok, sT_ok, sI_ok, seq_nx, seq_rt, fite_t, fite_f, gite_t, gite_f, fnot_e, gexpr_e, gret_e, fcon_e, rdc_v, rdc_o, rdc_b, rd_v, rd_o, rd_i, rd_l, m1_e, op1_e, m2_e, op2_e, mk_t, mk_f, okB_e, m2c_e, fcmp_e, m3_t, m3_f, mc2_e, fcmp2_e, cmp2_e, nt_e, neg_e, tru_bl, tru_int, tru_non, tru1_e, consO_e, rdcs_n, rdcs_c, bi1_e, mbi_e, nxO_e, toVal_v, toVal_o, toVal_b, mval_o, mval_v, toVals_n, toVals_c, tvc_e, mapd_e, gset_e, mset_e, ghold_o, ghold_v, asg_e, masg_u, masg_v, masg_o, gsub_e, fsub_e, gput_e, mput_e, mput2_e, mput3_e, fapp_e, app1_e, mapp_e, mapp2_e, mapp3_e, ownAt_e, mown_o, mown_i, isLst_e, mlst_e, varE_e, mvar_v, mvar_o, mvar_i, mvar_l, frng_e, mrng_e, mrng2_e, fof_e, mof_e, mof2_e, toSrc_v, toSrc_o, toSrc_b, msrc_o, msrc_l, items_l, items_t, ftup_e, flst_e, mtup_e, mlis_e, mtup2_e, fand_e, mand_t, mand_f, ret_v, ret_o, ret_b, mret_o, mret_ln, partR_t, partR_f, callG_e, mcall_e, mcall2_v, mcall2_o, mcall3_e, newG_e, mnew_e, mnew2_e, mnew3_e, give_n, give_c, gvc_e, gvm_e, give_v, mg1_e, give_rv, give_ro, give_rb, mgr_o, mgr_i, mgr_l, give_mo, give_mb, mgm_o, mgm_i, tb_n, tb_0, tb_i, tb_u, mtb_e, mtb2_e, fin_n, fin_r, mfin_e, mou_e, ou_n, ou_i, ou_v, ou_l, gatt_e, matt_e, matt2_e, matt3_e, getI0, getI1, setI0, setI1, omap_s, obind_s, nic_n, nic_i, bAdd, bSub, cLt, cLe, cGt, cGe, cEq, cNe, Bool.not_true, Bool.not_false, List.cons_append, List.nil_append, fn_law, fn_Scale___init, fn_law_digit, cd_law_digit, fn_law_by_amounts, cd_law_by_amounts, fn_law_due_halves, cd_law_due_halves, fn_additive, cd_additive, fn_law_same, cd_law_same, fn_law_push, cd_law_push, fn_law_pushed, cd_law_pushed, fn_law_halves, cd_law_halves, fn_law_adds_up, cd_law_adds_up, fn_idle_hands, cd_idle_hands, fn_law_idle, cd_law_idle, fn_check_hands, cd_check_hands, fn_check_length, cd_check_length, fn_check_opposite, cd_check_opposite, fn_check_rising, cd_check_rising, fn_check_number, cd_check_number, fn_law_amounts, cd_law_amounts, fn_law_fits, cd_law_fits, fn_amounts_of, cd_amounts_of, fn_Ratio___init, fn_rest_mask, cd_rest_mask, fn_with_hand, cd_with_hand, fn_has_hand, cd_has_hand, nd_Scale_2, nd_Ratio_1, nd_Ratio_2, at_Scale_hands, at_Scale_numbers, li_Scale, at_Ratio_top, at_Ratio_bottom, cc_Scale_MOST, gl_MOST_HANDS, gl_MOST_PART, is_Scale_non, is_Scale_bl, is_Scale_int, is_Scale_str, is_Scale_lst, is_Scale_tup, is_Scale_Scale, is_Scale_Ratio, is_bool_non, is_bool_bl, is_bool_int, is_bool_str, is_bool_lst, is_bool_tup, is_bool_Scale, is_bool_Ratio, is_int_non, is_int_bl, is_int_int, is_int_str, is_int_lst, is_int_tup, is_int_Scale, is_int_Ratio, is_str_non, is_str_bl, is_str_int, is_str_str, is_str_lst, is_str_tup, is_str_Scale, is_str_Ratio, is_list_non, is_list_bl, is_list_int, is_list_str, is_list_lst, is_list_tup, is_list_Scale, is_list_Ratio, is_tuple_non, is_tuple_bl, is_tuple_int, is_tuple_str, is_tuple_lst, is_tuple_tup, is_tuple_Scale, is_tuple_Ratio, is_Ratio_non, is_Ratio_bl, is_Ratio_int, is_Ratio_str, is_Ratio_lst, is_Ratio_tup, is_Ratio_Scale, is_Ratio_Ratio, amounts_of_run n h g j h7 hj, masg_f f3]
      rw [cmpU (fun m => .int (am g j m)) (fun m => .bl (!decide (am g j m = am g j 0))) rfl f4 (wo_len h7) (fun a b e => congrArg (fun x => D.bl (!decide (x = am g j 0))) (D.int.inj e)) fun m hm => by
        simp only [sz0, sz1, sz2, sz3, sz4, sz5, sz6, sz7, sz8, sz9, sz10, sz11, sz12, sz13, sz14, e_var, e_non, e_bl, e_int, e_str, e_glo, e_bin, e_neg, e_inv, e_nt, e_cmp, e_cmp2, e_and, e_or, e_ite, e_tup, e_lst, e_sub, e_slc, e_att, e_ccon, e_call, e_new, e_isi, e_bi, e_bm, e_mth, e_lso, e_app, e_pop, e_popAt, e_comp, es_nil, es_cons, t_and, t_or, t_nt, t_var, t_cmp, t_cmp2, t_call, t_isi, t_bi, t_bin, t_att, t_mth, t_bl, src_of, src_range1, src_range2, src_enum, src_zip, src_rev, s_expr, s_set, s_hold, s_setsub, s_setatt, s_unpack, s_ite, s_for, s_ret, s_retN, s_pass, s_brk, s_cnt, s_never, ss_nil, ss_cons, b1_ok, b2_ok, bs_ok, bE_ok, bL_ok, bT_ok, bI_ok, sE_ok, sT_ok, sI_ok, seq_nx, seq_rt, fite_t, fite_f, gite_t, gite_f, fnot_e, gexpr_e, gret_e, fcon_e, rdc_v, rdc_o, rdc_b, rd_v, rd_o, rd_i, rd_l, m1_e, op1_e, m2_e, op2_e, mk_t, mk_f, okB_e, m2c_e, fcmp_e, m3_t, m3_f, mc2_e, fcmp2_e, cmp2_e, nt_e, neg_e, tru_bl, tru_int, tru_non, tru1_e, consO_e, rdcs_n, rdcs_c, bi1_e, mbi_e, nxO_e, toVal_v, toVal_o, toVal_b, mval_o, mval_v, toVals_n, toVals_c, tvc_e, mapd_e, gset_e, mset_e, ghold_o, ghold_v, asg_e, masg_u, masg_v, masg_o, gsub_e, fsub_e, gput_e, mput_e, mput2_e, mput3_e, fapp_e, app1_e, mapp_e, mapp2_e, mapp3_e, ownAt_e, mown_o, mown_i, isLst_e, mlst_e, varE_e, mvar_v, mvar_o, mvar_i, mvar_l, frng_e, mrng_e, mrng2_e, fof_e, mof_e, mof2_e, toSrc_v, toSrc_o, toSrc_b, msrc_o, msrc_l, items_l, items_t, ftup_e, flst_e, mtup_e, mlis_e, mtup2_e, fand_e, mand_t, mand_f, ret_v, ret_o, ret_b, mret_o, mret_ln, partR_t, partR_f, callG_e, mcall_e, mcall2_v, mcall2_o, mcall3_e, newG_e, mnew_e, mnew2_e, mnew3_e, give_n, give_c, gvc_e, gvm_e, give_v, mg1_e, give_rv, give_ro, give_rb, mgr_o, mgr_i, mgr_l, give_mo, give_mb, mgm_o, mgm_i, tb_n, tb_0, tb_i, tb_u, mtb_e, mtb2_e, fin_n, fin_r, mfin_e, mou_e, ou_n, ou_i, ou_v, ou_l, gatt_e, matt_e, matt2_e, matt3_e, getI0, getI1, setI0, setI1, omap_s, obind_s, nic_n, nic_i, bAdd, bSub, cLt, cLe, cGt, cGe, cEq, cNe, Bool.not_true, Bool.not_false, List.cons_append, List.nil_append, sub_head]]
      simp only [sz0, sz1, sz2, sz3, sz4, sz5, sz6, sz7, sz8, sz9, sz10, sz11, sz12, sz13, sz14, e_var, e_non, e_bl, e_int, e_str, e_glo, e_bin, e_neg, e_inv, e_nt, e_cmp, e_cmp2, e_and, e_or, e_ite, e_tup, e_lst, e_sub, e_slc, e_att, e_ccon, e_call, e_new, e_isi, e_bi, e_bm, e_mth, e_lso, e_app, e_pop, e_popAt, e_comp, es_nil, es_cons, t_and, t_or, t_nt, t_var, t_cmp, t_cmp2, t_call, t_isi, t_bi, t_bin, t_att, t_mth, t_bl, src_of, src_range1, src_range2, src_enum, src_zip, src_rev, s_expr, s_set, s_hold, s_setsub, s_setatt, s_unpack, s_ite, s_for, s_ret, s_retN, s_pass, s_brk, s_cnt, s_never, ss_nil, ss_cons, b1_ok, b2_ok, bs_ok, bE_ok, bL_ok, bT_ok, bI_ok, sE_ok, sT_ok, sI_ok, seq_nx, seq_rt, fite_t, fite_f, gite_t, gite_f, fnot_e, gexpr_e, gret_e, fcon_e, rdc_v, rdc_o, rdc_b, rd_v, rd_o, rd_i, rd_l, m1_e, op1_e, m2_e, op2_e, mk_t, mk_f, okB_e, m2c_e, fcmp_e, m3_t, m3_f, mc2_e, fcmp2_e, cmp2_e, nt_e, neg_e, tru_bl, tru_int, tru_non, tru1_e, consO_e, rdcs_n, rdcs_c, bi1_e, mbi_e, nxO_e, toVal_v, toVal_o, toVal_b, mval_o, mval_v, toVals_n, toVals_c, tvc_e, mapd_e, gset_e, mset_e, ghold_o, ghold_v, asg_e, masg_u, masg_v, masg_o, gsub_e, fsub_e, gput_e, mput_e, mput2_e, mput3_e, fapp_e, app1_e, mapp_e, mapp2_e, mapp3_e, ownAt_e, mown_o, mown_i, isLst_e, mlst_e, varE_e, mvar_v, mvar_o, mvar_i, mvar_l, frng_e, mrng_e, mrng2_e, fof_e, mof_e, mof2_e, toSrc_v, toSrc_o, toSrc_b, msrc_o, msrc_l, items_l, items_t, ftup_e, flst_e, mtup_e, mlis_e, mtup2_e, fand_e, mand_t, mand_f, ret_v, ret_o, ret_b, mret_o, mret_ln, partR_t, partR_f, callG_e, mcall_e, mcall2_v, mcall2_o, mcall3_e, newG_e, mnew_e, mnew2_e, mnew3_e, give_n, give_c, gvc_e, gvm_e, give_v, mg1_e, give_rv, give_ro, give_rb, mgr_o, mgr_i, mgr_l, give_mo, give_mb, mgm_o, mgm_i, tb_n, tb_0, tb_i, tb_u, mtb_e, mtb2_e, fin_n, fin_r, mfin_e, mou_e, ou_n, ou_i, ou_v, ou_l, gatt_e, matt_e, matt2_e, matt3_e, getI0, getI1, setI0, setI1, omap_s, obind_s, nic_n, nic_i, bAdd, bSub, cLt, cLe, cGt, cGe, cEq, cNe, Bool.not_true, Bool.not_false, List.cons_append, List.nil_append, bi_anyB]
      by_cases ho : odd1 h g j = true
      · have ho' : ((wo h j).any fun m => !decide (am g j m = am g j 0)) = true := ho
        refine .inr ⟨by rw [ho]; rfl, [.val (scaleD h g), .own (.lst (tab (fun j => ratioD (am g j 0)) j)), .val (.int (j : Int)), .val (.lst ((wo h j).map fun m => .int (am g j m))), s4], ?_, _, _, rfl⟩
        simp only [sz0, sz1, sz2, sz3, sz4, sz5, sz6, sz7, sz8, sz9, sz10, sz11, sz12, sz13, sz14, e_var, e_non, e_bl, e_int, e_str, e_glo, e_bin, e_neg, e_inv, e_nt, e_cmp, e_cmp2, e_and, e_or, e_ite, e_tup, e_lst, e_sub, e_slc, e_att, e_ccon, e_call, e_new, e_isi, e_bi, e_bm, e_mth, e_lso, e_app, e_pop, e_popAt, e_comp, es_nil, es_cons, t_and, t_or, t_nt, t_var, t_cmp, t_cmp2, t_call, t_isi, t_bi, t_bin, t_att, t_mth, t_bl, src_of, src_range1, src_range2, src_enum, src_zip, src_rev, s_expr, s_set, s_hold, s_setsub, s_setatt, s_unpack, s_ite, s_for, s_ret, s_retN, s_pass, s_brk, s_cnt, s_never, ss_nil, ss_cons, b1_ok, b2_ok, bs_ok, bE_ok, bL_ok, bT_ok, bI_ok, sE_ok, sT_ok, sI_ok, seq_nx, seq_rt, fite_t, fite_f, gite_t, gite_f, fnot_e, gexpr_e, gret_e, fcon_e, rdc_v, rdc_o, rdc_b, rd_v, rd_o, rd_i, rd_l, m1_e, op1_e, m2_e, op2_e, mk_t, mk_f, okB_e, m2c_e, fcmp_e, m3_t, m3_f, mc2_e, fcmp2_e, cmp2_e, nt_e, neg_e, tru_bl, tru_int, tru_non, tru1_e, consO_e, rdcs_n, rdcs_c, bi1_e, mbi_e, nxO_e, toVal_v, toVal_o, toVal_b, mval_o, mval_v, toVals_n, toVals_c, tvc_e, mapd_e, gset_e, mset_e, ghold_o, ghold_v, asg_e, masg_u, masg_v, masg_o, gsub_e, fsub_e, gput_e, mput_e, mput2_e, mput3_e, fapp_e, app1_e, mapp_e, mapp2_e, mapp3_e, ownAt_e, mown_o, mown_i, isLst_e, mlst_e, varE_e, mvar_v, mvar_o, mvar_i, mvar_l, frng_e, mrng_e, mrng2_e, fof_e, mof_e, mof2_e, toSrc_v, toSrc_o, toSrc_b, msrc_o, msrc_l, items_l, items_t, ftup_e, flst_e, mtup_e, mlis_e, mtup2_e, fand_e, mand_t, mand_f, ret_v, ret_o, ret_b, mret_o, mret_ln, partR_t, partR_f, callG_e, mcall_e, mcall2_v, mcall2_o, mcall3_e, newG_e, mnew_e, mnew2_e, mnew3_e, give_n, give_c, gvc_e, gvm_e, give_v, mg1_e, give_rv, give_ro, give_rb, mgr_o, mgr_i, mgr_l, give_mo, give_mb, mgm_o, mgm_i, tb_n, tb_0, tb_i, tb_u, mtb_e, mtb2_e, fin_n, fin_r, mfin_e, mou_e, ou_n, ou_i, ou_v, ou_l, gatt_e, matt_e, matt2_e, matt3_e, getI0, getI1, setI0, setI1, omap_s, obind_s, nic_n, nic_i, bAdd, bSub, cLt, cLe, cGt, cGe, cEq, cNe, Bool.not_true, Bool.not_false, List.cons_append, List.nil_append, ho']
      · have ho : odd1 h g j = false := by simpa using ho
        have ho' : ((wo h j).any fun m => !decide (am g j m = am g j 0)) = false := ho
        refine .inl ⟨by rw [ho]; rfl, _, ?_, .val (.int (j : Int)), .val (.lst ((wo h j).map fun m => .int (am g j m))), s4, FreeS.val, FreeS.val, f4, rfl⟩
        simp only [sz0, sz1, sz2, sz3, sz4, sz5, sz6, sz7, sz8, sz9, sz10, sz11, sz12, sz13, sz14, e_var, e_non, e_bl, e_int, e_str, e_glo, e_bin, e_neg, e_inv, e_nt, e_cmp, e_cmp2, e_and, e_or, e_ite, e_tup, e_lst, e_sub, e_slc, e_att, e_ccon, e_call, e_new, e_isi, e_bi, e_bm, e_mth, e_lso, e_app, e_pop, e_popAt, e_comp, es_nil, es_cons, t_and, t_or, t_nt, t_var, t_cmp, t_cmp2, t_call, t_isi, t_bi, t_bin, t_att, t_mth, t_bl, src_of, src_range1, src_range2, src_enum, src_zip, src_rev, s_expr, s_set, s_hold, s_setsub, s_setatt, s_unpack, s_ite, s_for, s_ret, s_retN, s_pass, s_brk, s_cnt, s_never, ss_nil, ss_cons, b1_ok, b2_ok, bs_ok, bE_ok, bL_ok, bT_ok, bI_ok, sE_ok, sT_ok, sI_ok, seq_nx, seq_rt, fite_t, fite_f, gite_t, gite_f, fnot_e, gexpr_e, gret_e, fcon_e, rdc_v, rdc_o, rdc_b, rd_v, rd_o, rd_i, rd_l, m1_e, op1_e, m2_e, op2_e, mk_t, mk_f, okB_e, m2c_e, fcmp_e, m3_t, m3_f, mc2_e, fcmp2_e, cmp2_e, nt_e, neg_e, tru_bl, tru_int, tru_non, tru1_e, consO_e, rdcs_n, rdcs_c, bi1_e, mbi_e, nxO_e, toVal_v, toVal_o, toVal_b, mval_o, mval_v, toVals_n, toVals_c, tvc_e, mapd_e, gset_e, mset_e, ghold_o, ghold_v, asg_e, masg_u, masg_v, masg_o, gsub_e, fsub_e, gput_e, mput_e, mput2_e, mput3_e, fapp_e, app1_e, mapp_e, mapp2_e, mapp3_e, ownAt_e, mown_o, mown_i, isLst_e, mlst_e, varE_e, mvar_v, mvar_o, mvar_i, mvar_l, frng_e, mrng_e, mrng2_e, fof_e, mof_e, mof2_e, toSrc_v, toSrc_o, toSrc_b, msrc_o, msrc_l, items_l, items_t, ftup_e, flst_e, mtup_e, mlis_e, mtup2_e, fand_e, mand_t, mand_f, ret_v, ret_o, ret_b, mret_o, mret_ln, partR_t, partR_f, callG_e, mcall_e, mcall2_v, mcall2_o, mcall3_e, newG_e, mnew_e, mnew2_e, mnew3_e, give_n, give_c, gvc_e, gvm_e, give_v, mg1_e, give_rv, give_ro, give_rb, mgr_o, mgr_i, mgr_l, give_mo, give_mb, mgm_o, mgm_i, tb_n, tb_0, tb_i, tb_u, mtb_e, mtb2_e, fin_n, fin_r, mfin_e, mou_e, ou_n, ou_i, ou_v, ou_l, gatt_e, matt_e, matt2_e, matt3_e, getI0, getI1, setI0, setI1, omap_s, obind_s, nic_n, nic_i, bAdd, bSub, cLt, cLe, cGt, cGe, cEq, cNe, Bool.not_true, Bool.not_false, List.cons_append, List.nil_append, fn_law, fn_Scale___init, fn_law_digit, cd_law_digit, fn_law_by_amounts, cd_law_by_amounts, fn_law_due_halves, cd_law_due_halves, fn_additive, cd_additive, fn_law_same, cd_law_same, fn_law_push, cd_law_push, fn_law_pushed, cd_law_pushed, fn_law_halves, cd_law_halves, fn_law_adds_up, cd_law_adds_up, fn_idle_hands, cd_idle_hands, fn_law_idle, cd_law_idle, fn_check_hands, cd_check_hands, fn_check_length, cd_check_length, fn_check_opposite, cd_check_opposite, fn_check_rising, cd_check_rising, fn_check_number, cd_check_number, fn_law_amounts, cd_law_amounts, fn_law_fits, cd_law_fits, fn_amounts_of, cd_amounts_of, fn_Ratio___init, fn_rest_mask, cd_rest_mask, fn_with_hand, cd_with_hand, fn_has_hand, cd_has_hand, nd_Scale_2, nd_Ratio_1, nd_Ratio_2, at_Scale_hands, at_Scale_numbers, li_Scale, at_Ratio_top, at_Ratio_bottom, cc_Scale_MOST, gl_MOST_HANDS, gl_MOST_PART, is_Scale_non, is_Scale_bl, is_Scale_int, is_Scale_str, is_Scale_lst, is_Scale_tup, is_Scale_Scale, is_Scale_Ratio, is_bool_non, is_bool_bl, is_bool_int, is_bool_str, is_bool_lst, is_bool_tup, is_bool_Scale, is_bool_Ratio, is_int_non, is_int_bl, is_int_int, is_int_str, is_int_lst, is_int_tup, is_int_Scale, is_int_Ratio, is_str_non, is_str_bl, is_str_int, is_str_str, is_str_lst, is_str_tup, is_str_Scale, is_str_Ratio, is_list_non, is_list_bl, is_list_int, is_list_str, is_list_lst, is_list_tup, is_list_Scale, is_list_Ratio, is_tuple_non, is_tuple_bl, is_tuple_int, is_tuple_str, is_tuple_lst, is_tuple_tup, is_tuple_Scale, is_tuple_Ratio, is_Ratio_non, is_Ratio_bl, is_Ratio_int, is_Ratio_str, is_Ratio_lst, is_Ratio_tup, is_Ratio_Scale, is_Ratio_Ratio, ho', sub_head, ratio_run n (am g j 0) (hb j hj), szT (show j ≤ 1000 by omega)]
        rw [tab_snoc rfl]
  rcases key with ⟨k1, ρ', e, s2, s3, s4, f2, f3, f4, eρ⟩ | ⟨⟨j, hj, k1⟩, ρ', e, s, r, eρ⟩
  · left
    refine ⟨fun m hm j hj hb => odd1_iff.mp (by have := k1 j hj; simpa using this) m hm hb, ?_⟩
    have e : L = .nx ρ' := hL.symm.trans e
    subst e eρ
    simp only [sz0, sz1, sz2, sz3, sz4, sz5, sz6, sz7, sz8, sz9, sz10, sz11, sz12, sz13, sz14, e_var, e_non, e_bl, e_int, e_str, e_glo, e_bin, e_neg, e_inv, e_nt, e_cmp, e_cmp2, e_and, e_or, e_ite, e_tup, e_lst, e_sub, e_slc, e_att, e_ccon, e_call, e_new, e_isi, e_bi, e_bm, e_mth, e_lso, e_app, e_pop, e_popAt, e_comp, es_nil, es_cons, t_and, t_or, t_nt, t_var, t_cmp, t_cmp2, t_call, t_isi, t_bi, t_bin, t_att, t_mth, t_bl, src_of, src_range1, src_range2, src_enum, src_zip, src_rev, s_expr, s_set, s_hold, s_setsub, s_setatt, s_unpack, s_ite, s_for, s_ret, s_retN, s_pass, s_brk, s_cnt, s_never, ss_nil, ss_cons, b1_ok, b2_ok, bs_ok, bE_ok, bL_ok, bT_ok, bI_ok, sE_ok, sT_ok, sI_ok, seq_nx, seq_rt, fite_t, fite_f, gite_t, gite_f, fnot_e, gexpr_e, gret_e, fcon_e, rdc_v, rdc_o, rdc_b, rd_v, rd_o, rd_i, rd_l, m1_e, op1_e, m2_e, op2_e, mk_t, mk_f, okB_e, m2c_e, fcmp_e, m3_t, m3_f, mc2_e, fcmp2_e, cmp2_e, nt_e, neg_e, tru_bl, tru_int, tru_non, tru1_e, consO_e, rdcs_n, rdcs_c, bi1_e, mbi_e, nxO_e, toVal_v, toVal_o, toVal_b, mval_o, mval_v, toVals_n, toVals_c, tvc_e, mapd_e, gset_e, mset_e, ghold_o, ghold_v, asg_e, masg_u, masg_v, masg_o, gsub_e, fsub_e, gput_e, mput_e, mput2_e, mput3_e, fapp_e, app1_e, mapp_e, mapp2_e, mapp3_e, ownAt_e, mown_o, mown_i, isLst_e, mlst_e, varE_e, mvar_v, mvar_o, mvar_i, mvar_l, frng_e, mrng_e, mrng2_e, fof_e, mof_e, mof2_e, toSrc_v, toSrc_o, toSrc_b, msrc_o, msrc_l, items_l, items_t, ftup_e, flst_e, mtup_e, mlis_e, mtup2_e, fand_e, mand_t, mand_f, ret_v, ret_o, ret_b, mret_o, mret_ln, partR_t, partR_f, callG_e, mcall_e, mcall2_v, mcall2_o, mcall3_e, newG_e, mnew_e, mnew2_e, mnew3_e, give_n, give_c, gvc_e, gvm_e, give_v, mg1_e, give_rv, give_ro, give_rb, mgr_o, mgr_i, mgr_l, give_mo, give_mb, mgm_o, mgm_i, tb_n, tb_0, tb_i, tb_u, mtb_e, mtb2_e, fin_n, fin_r, mfin_e, mou_e, ou_n, ou_i, ou_v, ou_l, gatt_e, matt_e, matt2_e, matt3_e, getI0, getI1, setI0, setI1, omap_s, obind_s, nic_n, nic_i, bAdd, bSub, cLt, cLe, cGt, cGe, cEq, cNe, Bool.not_true, Bool.not_false, List.cons_append, List.nil_append]
  · right
    refine ⟨fun q => ?_, ?_⟩
    · have : odd1 h g j = false := odd1_iff.mpr fun m hm hb => q m hm j hj hb
      rw [this] at k1; cases k1
    have e : L = .rt (.val .non) ρ' := hL.symm.trans e
    subst e eρ
    simp only [sz0, sz1, sz2, sz3, sz4, sz5, sz6, sz7, sz8, sz9, sz10, sz11, sz12, sz13, sz14, e_var, e_non, e_bl, e_int, e_str, e_glo, e_bin, e_neg, e_inv, e_nt, e_cmp, e_cmp2, e_and, e_or, e_ite, e_tup, e_lst, e_sub, e_slc, e_att, e_ccon, e_call, e_new, e_isi, e_bi, e_bm, e_mth, e_lso, e_app, e_pop, e_popAt, e_comp, es_nil, es_cons, t_and, t_or, t_nt, t_var, t_cmp, t_cmp2, t_call, t_isi, t_bi, t_bin, t_att, t_mth, t_bl, src_of, src_range1, src_range2, src_enum, src_zip, src_rev, s_expr, s_set, s_hold, s_setsub, s_setatt, s_unpack, s_ite, s_for, s_ret, s_retN, s_pass, s_brk, s_cnt, s_never, ss_nil, ss_cons, b1_ok, b2_ok, bs_ok, bE_ok, bL_ok, bT_ok, bI_ok, sE_ok, sT_ok, sI_ok, seq_nx, seq_rt, fite_t, fite_f, gite_t, gite_f, fnot_e, gexpr_e, gret_e, fcon_e, rdc_v, rdc_o, rdc_b, rd_v, rd_o, rd_i, rd_l, m1_e, op1_e, m2_e, op2_e, mk_t, mk_f, okB_e, m2c_e, fcmp_e, m3_t, m3_f, mc2_e, fcmp2_e, cmp2_e, nt_e, neg_e, tru_bl, tru_int, tru_non, tru1_e, consO_e, rdcs_n, rdcs_c, bi1_e, mbi_e, nxO_e, toVal_v, toVal_o, toVal_b, mval_o, mval_v, toVals_n, toVals_c, tvc_e, mapd_e, gset_e, mset_e, ghold_o, ghold_v, asg_e, masg_u, masg_v, masg_o, gsub_e, fsub_e, gput_e, mput_e, mput2_e, mput3_e, fapp_e, app1_e, mapp_e, mapp2_e, mapp3_e, ownAt_e, mown_o, mown_i, isLst_e, mlst_e, varE_e, mvar_v, mvar_o, mvar_i, mvar_l, frng_e, mrng_e, mrng2_e, fof_e, mof_e, mof2_e, toSrc_v, toSrc_o, toSrc_b, msrc_o, msrc_l, items_l, items_t, ftup_e, flst_e, mtup_e, mlis_e, mtup2_e, fand_e, mand_t, mand_f, ret_v, ret_o, ret_b, mret_o, mret_ln, partR_t, partR_f, callG_e, mcall_e, mcall2_v, mcall2_o, mcall3_e, newG_e, mnew_e, mnew2_e, mnew3_e, give_n, give_c, gvc_e, gvm_e, give_v, mg1_e, give_rv, give_ro, give_rb, mgr_o, mgr_i, mgr_l, give_mo, give_mb, mgm_o, mgm_i, tb_n, tb_0, tb_i, tb_u, mtb_e, mtb2_e, fin_n, fin_r, mfin_e, mou_e, ou_n, ou_i, ou_v, ou_l, gatt_e, matt_e, matt2_e, matt3_e, getI0, getI1, setI0, setI1, omap_s, obind_s, nic_n, nic_i, bAdd, bSub, cLt, cLe, cGt, cGe, cEq, cNe, Bool.not_true, Bool.not_false, List.cons_append, List.nil_append]
/-! ### idle hands -/
def idle1 (h : Nat) (g : Nat → Int) (j : Nat) : Bool := !((wo h j).any fun m => am g j m != 0)
def idleD (h : Nat) (g : Nat → Int) : D := .tup (((List.range h).filter (idle1 h g)).map fun j : Nat => .int (j : Int))
theorem idle_hands_run (n h : Nat) (g : Nat → Int) (h7 : h ≤ 7) : callF T (n + 3) 11 [.val (scaleD h g)] = .ret (.val (idleD h g)) [.un] := by
  have rh : rngOk (h : Int) = true := rngOk_of (by omega) (by omega)
  rw [callF_at fn_idle_hands rfl]
  simp only [fd_idle_hands, c_idle_hands, List.length_cons, List.length_nil, List.replicate, List.cons_append, List.nil_append]
  simp only [sz0, sz1, sz2, sz3, sz4, sz5, sz6, sz7, sz8, sz9, sz10, sz11, sz12, sz13, sz14, e_var, e_non, e_bl, e_int, e_str, e_glo, e_bin, e_neg, e_inv, e_nt, e_cmp, e_cmp2, e_and, e_or, e_ite, e_tup, e_lst, e_sub, e_slc, e_att, e_ccon, e_call, e_new, e_isi, e_bi, e_bm, e_mth, e_lso, e_app, e_pop, e_popAt, e_comp, es_nil, es_cons, t_and, t_or, t_nt, t_var, t_cmp, t_cmp2, t_call, t_isi, t_bi, t_bin, t_att, t_mth, t_bl, src_of, src_range1, src_range2, src_enum, src_zip, src_rev, s_expr, s_set, s_hold, s_setsub, s_setatt, s_unpack, s_ite, s_for, s_ret, s_retN, s_pass, s_brk, s_cnt, s_never, ss_nil, ss_cons, b1_ok, b2_ok, bs_ok, bE_ok, bL_ok, bT_ok, bI_ok, sE_ok, sT_ok, sI_ok, seq_nx, seq_rt, fite_t, fite_f, gite_t, gite_f, fnot_e, gexpr_e, gret_e, fcon_e, rdc_v, rdc_o, rdc_b, rd_v, rd_o, rd_i, rd_l, m1_e, op1_e, m2_e, op2_e, mk_t, mk_f, okB_e, m2c_e, fcmp_e, m3_t, m3_f, mc2_e, fcmp2_e, cmp2_e, nt_e, neg_e, tru_bl, tru_int, tru_non, tru1_e, consO_e, rdcs_n, rdcs_c, bi1_e, mbi_e, nxO_e, toVal_v, toVal_o, toVal_b, mval_o, mval_v, toVals_n, toVals_c, tvc_e, mapd_e, gset_e, mset_e, ghold_o, ghold_v, asg_e, masg_u, masg_v, masg_o, gsub_e, fsub_e, gput_e, mput_e, mput2_e, mput3_e, fapp_e, app1_e, mapp_e, mapp2_e, mapp3_e, ownAt_e, mown_o, mown_i, isLst_e, mlst_e, varE_e, mvar_v, mvar_o, mvar_i, mvar_l, frng_e, mrng_e, mrng2_e, fof_e, mof_e, mof2_e, toSrc_v, toSrc_o, toSrc_b, msrc_o, msrc_l, items_l, items_t, ftup_e, flst_e, mtup_e, mlis_e, mtup2_e, fand_e, mand_t, mand_f, ret_v, ret_o, ret_b, mret_o, mret_ln, partR_t, partR_f, callG_e, mcall_e, mcall2_v, mcall2_o, mcall3_e, newG_e, mnew_e, mnew2_e, mnew3_e, give_n, give_c, gvc_e, gvm_e, give_v, mg1_e, give_rv, give_ro, give_rb, mgr_o, mgr_i, mgr_l, give_mo, give_mb, mgm_o, mgm_i, tb_n, tb_0, tb_i, tb_u, mtb_e, mtb2_e, fin_n, fin_r, mfin_e, mou_e, ou_n, ou_i, ou_v, ou_l, gatt_e, matt_e, matt2_e, matt3_e, getI0, getI1, setI0, setI1, omap_s, obind_s, nic_n, nic_i, bAdd, bSub, cLt, cLe, cGt, cGe, cEq, cNe, Bool.not_true, Bool.not_false, List.cons_append, List.nil_append, at_sc, rh, Int.toNat_natCast]
  rw [cmpR (idle1 h g) (fun j => .int (j : Int)) rfl FreeS.un (by omega) fun j hj => ⟨by
    simp only [sz0, sz1, sz2, sz3, sz4, sz5, sz6, sz7, sz8, sz9, sz10, sz11, sz12, sz13, sz14, e_var, e_non, e_bl, e_int, e_str, e_glo, e_bin, e_neg, e_inv, e_nt, e_cmp, e_cmp2, e_and, e_or, e_ite, e_tup, e_lst, e_sub, e_slc, e_att, e_ccon, e_call, e_new, e_isi, e_bi, e_bm, e_mth, e_lso, e_app, e_pop, e_popAt, e_comp, es_nil, es_cons, t_and, t_or, t_nt, t_var, t_cmp, t_cmp2, t_call, t_isi, t_bi, t_bin, t_att, t_mth, t_bl, src_of, src_range1, src_range2, src_enum, src_zip, src_rev, s_expr, s_set, s_hold, s_setsub, s_setatt, s_unpack, s_ite, s_for, s_ret, s_retN, s_pass, s_brk, s_cnt, s_never, ss_nil, ss_cons, b1_ok, b2_ok, bs_ok, bE_ok, bL_ok, bT_ok, bI_ok, sE_ok, sT_ok, sI_ok, seq_nx, seq_rt, fite_t, fite_f, gite_t, gite_f, fnot_e, gexpr_e, gret_e, fcon_e, rdc_v, rdc_o, rdc_b, rd_v, rd_o, rd_i, rd_l, m1_e, op1_e, m2_e, op2_e, mk_t, mk_f, okB_e, m2c_e, fcmp_e, m3_t, m3_f, mc2_e, fcmp2_e, cmp2_e, nt_e, neg_e, tru_bl, tru_int, tru_non, tru1_e, consO_e, rdcs_n, rdcs_c, bi1_e, mbi_e, nxO_e, toVal_v, toVal_o, toVal_b, mval_o, mval_v, toVals_n, toVals_c, tvc_e, mapd_e, gset_e, mset_e, ghold_o, ghold_v, asg_e, masg_u, masg_v, masg_o, gsub_e, fsub_e, gput_e, mput_e, mput2_e, mput3_e, fapp_e, app1_e, mapp_e, mapp2_e, mapp3_e, ownAt_e, mown_o, mown_i, isLst_e, mlst_e, varE_e, mvar_v, mvar_o, mvar_i, mvar_l, frng_e, mrng_e, mrng2_e, fof_e, mof_e, mof2_e, toSrc_v, toSrc_o, toSrc_b, msrc_o, msrc_l, items_l, items_t, ftup_e, flst_e, mtup_e, mlis_e, mtup2_e, fand_e, mand_t, mand_f, ret_v, ret_o, ret_b, mret_o, mret_ln, partR_t, partR_f, callG_e, mcall_e, mcall2_v, mcall2_o, mcall3_e, newG_e, mnew_e, mnew2_e, mnew3_e, give_n, give_c, gvc_e, gvm_e, give_v, mg1_e, give_rv, give_ro, give_rb, mgr_o, mgr_i, mgr_l, give_mo, give_mb, mgm_o, mgm_i, tb_n, tb_0, tb_i, tb_u, mtb_e, mtb2_e, fin_n, fin_r, mfin_e, mou_e, ou_n, ou_i, ou_v, ou_l, gatt_e, matt_e, matt2_e, matt3_e, getI0, getI1, setI0, setI1, omap_s, obind_s, nic_n, nic_i, bAdd, bSub, cLt, cLe, cGt, cGe, cEq, cNe, Bool.not_true, Bool.not_false, List.cons_append, List.nil_append, fn_law, fn_Scale___init, fn_law_digit, cd_law_digit, fn_law_by_amounts, cd_law_by_amounts, fn_law_due_halves, cd_law_due_halves, fn_additive, cd_additive, fn_law_same, cd_law_same, fn_law_push, cd_law_push, fn_law_pushed, cd_law_pushed, fn_law_halves, cd_law_halves, fn_law_adds_up, cd_law_adds_up, fn_idle_hands, cd_idle_hands, fn_law_idle, cd_law_idle, fn_check_hands, cd_check_hands, fn_check_length, cd_check_length, fn_check_opposite, cd_check_opposite, fn_check_rising, cd_check_rising, fn_check_number, cd_check_number, fn_law_amounts, cd_law_amounts, fn_law_fits, cd_law_fits, fn_amounts_of, cd_amounts_of, fn_Ratio___init, fn_rest_mask, cd_rest_mask, fn_with_hand, cd_with_hand, fn_has_hand, cd_has_hand, nd_Scale_2, nd_Ratio_1, nd_Ratio_2, at_Scale_hands, at_Scale_numbers, li_Scale, at_Ratio_top, at_Ratio_bottom, cc_Scale_MOST, gl_MOST_HANDS, gl_MOST_PART, is_Scale_non, is_Scale_bl, is_Scale_int, is_Scale_str, is_Scale_lst, is_Scale_tup, is_Scale_Scale, is_Scale_Ratio, is_bool_non, is_bool_bl, is_bool_int, is_bool_str, is_bool_lst, is_bool_tup, is_bool_Scale, is_bool_Ratio, is_int_non, is_int_bl, is_int_int, is_int_str, is_int_lst, is_int_tup, is_int_Scale, is_int_Ratio, is_str_non, is_str_bl, is_str_int, is_str_str, is_str_lst, is_str_tup, is_str_Scale, is_str_Ratio, is_list_non, is_list_bl, is_list_int, is_list_str, is_list_lst, is_list_tup, is_list_Scale, is_list_Ratio, is_tuple_non, is_tuple_bl, is_tuple_int, is_tuple_str, is_tuple_lst, is_tuple_tup, is_tuple_Scale, is_tuple_Ratio, is_Ratio_non, is_Ratio_bl, is_Ratio_int, is_Ratio_str, is_Ratio_lst, is_Ratio_tup, is_Ratio_Scale, is_Ratio_Ratio, amounts_of_run n h g j h7 hj, bi_anyI]
    rfl, fun _ => by
    simp only [sz0, sz1, sz2, sz3, sz4, sz5, sz6, sz7, sz8, sz9, sz10, sz11, sz12, sz13, sz14, e_var, e_non, e_bl, e_int, e_str, e_glo, e_bin, e_neg, e_inv, e_nt, e_cmp, e_cmp2, e_and, e_or, e_ite, e_tup, e_lst, e_sub, e_slc, e_att, e_ccon, e_call, e_new, e_isi, e_bi, e_bm, e_mth, e_lso, e_app, e_pop, e_popAt, e_comp, es_nil, es_cons, t_and, t_or, t_nt, t_var, t_cmp, t_cmp2, t_call, t_isi, t_bi, t_bin, t_att, t_mth, t_bl, src_of, src_range1, src_range2, src_enum, src_zip, src_rev, s_expr, s_set, s_hold, s_setsub, s_setatt, s_unpack, s_ite, s_for, s_ret, s_retN, s_pass, s_brk, s_cnt, s_never, ss_nil, ss_cons, b1_ok, b2_ok, bs_ok, bE_ok, bL_ok, bT_ok, bI_ok, sE_ok, sT_ok, sI_ok, seq_nx, seq_rt, fite_t, fite_f, gite_t, gite_f, fnot_e, gexpr_e, gret_e, fcon_e, rdc_v, rdc_o, rdc_b, rd_v, rd_o, rd_i, rd_l, m1_e, op1_e, m2_e, op2_e, mk_t, mk_f, okB_e, m2c_e, fcmp_e, m3_t, m3_f, mc2_e, fcmp2_e, cmp2_e, nt_e, neg_e, tru_bl, tru_int, tru_non, tru1_e, consO_e, rdcs_n, rdcs_c, bi1_e, mbi_e, nxO_e, toVal_v, toVal_o, toVal_b, mval_o, mval_v, toVals_n, toVals_c, tvc_e, mapd_e, gset_e, mset_e, ghold_o, ghold_v, asg_e, masg_u, masg_v, masg_o, gsub_e, fsub_e, gput_e, mput_e, mput2_e, mput3_e, fapp_e, app1_e, mapp_e, mapp2_e, mapp3_e, ownAt_e, mown_o, mown_i, isLst_e, mlst_e, varE_e, mvar_v, mvar_o, mvar_i, mvar_l, frng_e, mrng_e, mrng2_e, fof_e, mof_e, mof2_e, toSrc_v, toSrc_o, toSrc_b, msrc_o, msrc_l, items_l, items_t, ftup_e, flst_e, mtup_e, mlis_e, mtup2_e, fand_e, mand_t, mand_f, ret_v, ret_o, ret_b, mret_o, mret_ln, partR_t, partR_f, callG_e, mcall_e, mcall2_v, mcall2_o, mcall3_e, newG_e, mnew_e, mnew2_e, mnew3_e, give_n, give_c, gvc_e, gvm_e, give_v, mg1_e, give_rv, give_ro, give_rb, mgr_o, mgr_i, mgr_l, give_mo, give_mb, mgm_o, mgm_i, tb_n, tb_0, tb_i, tb_u, mtb_e, mtb2_e, fin_n, fin_r, mfin_e, mou_e, ou_n, ou_i, ou_v, ou_l, gatt_e, matt_e, matt2_e, matt3_e, getI0, getI1, setI0, setI1, omap_s, obind_s, nic_n, nic_i, bAdd, bSub, cLt, cLe, cGt, cGe, cEq, cNe, Bool.not_true, Bool.not_false, List.cons_append, List.nil_append]⟩]
  simp only [sz0, sz1, sz2, sz3, sz4, sz5, sz6, sz7, sz8, sz9, sz10, sz11, sz12, sz13, sz14, e_var, e_non, e_bl, e_int, e_str, e_glo, e_bin, e_neg, e_inv, e_nt, e_cmp, e_cmp2, e_and, e_or, e_ite, e_tup, e_lst, e_sub, e_slc, e_att, e_ccon, e_call, e_new, e_isi, e_bi, e_bm, e_mth, e_lso, e_app, e_pop, e_popAt, e_comp, es_nil, es_cons, t_and, t_or, t_nt, t_var, t_cmp, t_cmp2, t_call, t_isi, t_bi, t_bin, t_att, t_mth, t_bl, src_of, src_range1, src_range2, src_enum, src_zip, src_rev, s_expr, s_set, s_hold, s_setsub, s_setatt, s_unpack, s_ite, s_for, s_ret, s_retN, s_pass, s_brk, s_cnt, s_never, ss_nil, ss_cons, b1_ok, b2_ok, bs_ok, bE_ok, bL_ok, bT_ok, bI_ok, sE_ok, sT_ok, sI_ok, seq_nx, seq_rt, fite_t, fite_f, gite_t, gite_f, fnot_e, gexpr_e, gret_e, fcon_e, rdc_v, rdc_o, rdc_b, rd_v, rd_o, rd_i, rd_l, m1_e, op1_e, m2_e, op2_e, mk_t, mk_f, okB_e, m2c_e, fcmp_e, m3_t, m3_f, mc2_e, fcmp2_e, cmp2_e, nt_e, neg_e, tru_bl, tru_int, tru_non, tru1_e, consO_e, rdcs_n, rdcs_c, bi1_e, mbi_e, nxO_e, toVal_v, toVal_o, toVal_b, mval_o, mval_v, toVals_n, toVals_c, tvc_e, mapd_e, gset_e, mset_e, ghold_o, ghold_v, asg_e, masg_u, masg_v, masg_o, gsub_e, fsub_e, gput_e, mput_e, mput2_e, mput3_e, fapp_e, app1_e, mapp_e, mapp2_e, mapp3_e, ownAt_e, mown_o, mown_i, isLst_e, mlst_e, varE_e, mvar_v, mvar_o, mvar_i, mvar_l, frng_e, mrng_e, mrng2_e, fof_e, mof_e, mof2_e, toSrc_v, toSrc_o, toSrc_b, msrc_o, msrc_l, items_l, items_t, ftup_e, flst_e, mtup_e, mlis_e, mtup2_e, fand_e, mand_t, mand_f, ret_v, ret_o, ret_b, mret_o, mret_ln, partR_t, partR_f, callG_e, mcall_e, mcall2_v, mcall2_o, mcall3_e, newG_e, mnew_e, mnew2_e, mnew3_e, give_n, give_c, gvc_e, gvm_e, give_v, mg1_e, give_rv, give_ro, give_rb, mgr_o, mgr_i, mgr_l, give_mo, give_mb, mgm_o, mgm_i, tb_n, tb_0, tb_i, tb_u, mtb_e, mtb2_e, fin_n, fin_r, mfin_e, mou_e, ou_n, ou_i, ou_v, ou_l, gatt_e, matt_e, matt2_e, matt3_e, getI0, getI1, setI0, setI1, omap_s, obind_s, nic_n, nic_i, bAdd, bSub, cLt, cLe, cGt, cGe, cEq, cNe, Bool.not_true, Bool.not_false, List.cons_append, List.nil_append, bi_tuple]
  rfl
theorem idle1_iff {h : Nat} {g : Nat → Int} {j : Nat} : idle1 h g j = decide (∀ k, k < 2 ^ h → g (k ||| 2 ^ j) = g k) := by
  rw [Bool.eq_iff_iff]
  unfold idle1
  rw [Bool.not_eq_true', List.any_eq_false, decide_eq_true_eq]
  constructor
  · intro q k hk
    by_cases hb : k.testBit j = true
    · have : k ||| 2 ^ j = k := by
        apply Nat.eq_of_testBit_eq
        intro i
        rw [Nat.testBit_or, Nat.testBit_two_pow]
        by_cases e : j = i
        · subst e; simp [hb]
        · simp [e]
      rw [this]
    · have := q k (mem_wo.mpr ⟨hk, by simpa using hb⟩)
      unfold am at this
      simp at this
      omega
  · intro q m hm
    have := q m (mem_wo.mp hm).1
    unfold am
    simp
    omega
theorem filt_t {p : Nat → Bool} {f : Nat → D} {k : Nat} (h : p k = true) : ((List.range k).filter p).map f ++ [f k] = ((List.range (k + 1)).filter p).map f := by
  rw [List.range_succ, List.filter_append, List.map_append]
  simp [h]
theorem filt_f {p : Nat → Bool} {f : Nat → D} {k : Nat} (h : p k = false) : ((List.range k).filter p).map f = ((List.range (k + 1)).filter p).map f := by
  rw [List.range_succ, List.filter_append, List.map_append]
  simp [h]
theorem law_idle_run (n h : Nat) (g : Nat → Int) (h7 : h ≤ 7) : callF T (n + 1) 12 [.val (.int (h : Int)), .lk (.lst (tabI g (2 ^ h)))] = .ret (.val (idleD h g)) [.un, .un] := by
  have rh : rngOk (h : Int) = true := rngOk_of (by omega) (by omega)
  have p7 := pow7 h7
  rw [callF_at fn_law_idle rfl]
  simp only [fd_law_idle, c_law_idle, List.length_cons, List.length_nil, List.replicate, List.cons_append, List.nil_append]
  simp only [sz0, sz1, sz2, sz3, sz4, sz5, sz6, sz7, sz8, sz9, sz10, sz11, sz12, sz13, sz14, e_var, e_non, e_bl, e_int, e_str, e_glo, e_bin, e_neg, e_inv, e_nt, e_cmp, e_cmp2, e_and, e_or, e_ite, e_tup, e_lst, e_sub, e_slc, e_att, e_ccon, e_call, e_new, e_isi, e_bi, e_bm, e_mth, e_lso, e_app, e_pop, e_popAt, e_comp, es_nil, es_cons, t_and, t_or, t_nt, t_var, t_cmp, t_cmp2, t_call, t_isi, t_bi, t_bin, t_att, t_mth, t_bl, src_of, src_range1, src_range2, src_enum, src_zip, src_rev, s_expr, s_set, s_hold, s_setsub, s_setatt, s_unpack, s_ite, s_for, s_ret, s_retN, s_pass, s_brk, s_cnt, s_never, ss_nil, ss_cons, b1_ok, b2_ok, bs_ok, bE_ok, bL_ok, bT_ok, bI_ok, sE_ok, sT_ok, sI_ok, seq_nx, seq_rt, fite_t, fite_f, gite_t, gite_f, fnot_e, gexpr_e, gret_e, fcon_e, rdc_v, rdc_o, rdc_b, rd_v, rd_o, rd_i, rd_l, m1_e, op1_e, m2_e, op2_e, mk_t, mk_f, okB_e, m2c_e, fcmp_e, m3_t, m3_f, mc2_e, fcmp2_e, cmp2_e, nt_e, neg_e, tru_bl, tru_int, tru_non, tru1_e, consO_e, rdcs_n, rdcs_c, bi1_e, mbi_e, nxO_e, toVal_v, toVal_o, toVal_b, mval_o, mval_v, toVals_n, toVals_c, tvc_e, mapd_e, gset_e, mset_e, ghold_o, ghold_v, asg_e, masg_u, masg_v, masg_o, gsub_e, fsub_e, gput_e, mput_e, mput2_e, mput3_e, fapp_e, app1_e, mapp_e, mapp2_e, mapp3_e, ownAt_e, mown_o, mown_i, isLst_e, mlst_e, varE_e, mvar_v, mvar_o, mvar_i, mvar_l, frng_e, mrng_e, mrng2_e, fof_e, mof_e, mof2_e, toSrc_v, toSrc_o, toSrc_b, msrc_o, msrc_l, items_l, items_t, ftup_e, flst_e, mtup_e, mlis_e, mtup2_e, fand_e, mand_t, mand_f, ret_v, ret_o, ret_b, mret_o, mret_ln, partR_t, partR_f, callG_e, mcall_e, mcall2_v, mcall2_o, mcall3_e, newG_e, mnew_e, mnew2_e, mnew3_e, give_n, give_c, gvc_e, gvm_e, give_v, mg1_e, give_rv, give_ro, give_rb, mgr_o, mgr_i, mgr_l, give_mo, give_mb, mgm_o, mgm_i, tb_n, tb_0, tb_i, tb_u, mtb_e, mtb2_e, fin_n, fin_r, mfin_e, mou_e, ou_n, ou_i, ou_v, ou_l, gatt_e, matt_e, matt2_e, matt3_e, getI0, getI1, setI0, setI1, omap_s, obind_s, nic_n, nic_i, bAdd, bSub, cLt, cLe, cGt, cGe, cEq, cNe, Bool.not_true, Bool.not_false, List.cons_append, List.nil_append, rh, Int.toNat_natCast]
  generalize hL : forB _ _ _ _ _ _ = L
  obtain ⟨ρ', e, s3, s4, f3, f4, eρ⟩ : ∃ ρ', L = .nx ρ' ∧ ∃ s3 s4, FreeS s3 ∧ FreeS s4 ∧ ρ' = [.val (.int (h : Int)), .lk (.lst (tabI g (2 ^ h))), .own (.lst (((List.range h).filter (idle1 h g)).map fun j : Nat => .int (j : Int))), s3, s4, .un] := by
    rw [← hL]
    refine for0 (fun k ρ' => ∃ s3 s4, FreeS s3 ∧ FreeS s4 ∧ ρ' = [.val (.int (h : Int)), .lk (.lst (tabI g (2 ^ h))), .own (.lst (((List.range k).filter (idle1 h g)).map fun j : Nat => .int (j : Int))), s3, s4, .un]) ⟨_, _, FreeS.un, FreeS.un, rfl⟩ fun j ρ hj ⟨s3, s4, f3, f4, e⟩ => ?_
    subst e
    have hz : decide ((((List.range j).filter (idle1 h g)).map fun j : Nat => D.int (j : Int)).length < sizeLine) = true := by
      refine decide_eq_true (sz_small ?_)
      have := List.length_filter_le (idle1 h g) (List.range j)
      rw [List.length_range] at this
      rw [List.length_map]; omega
    refine ⟨_, _, asg_free rfl f3, ?_, .val (.int (j : Int)), .val (.lst (tabI (fun k => g (k ||| 2 ^ j)) (2 ^ h))), FreeS.val, FreeS.val, rfl⟩
    simp only [sz0, sz1, sz2, sz3, sz4, sz5, sz6, sz7, sz8, sz9, sz10, sz11, sz12, sz13, sz14, e_var, e_non, e_bl, e_int, e_str, e_glo, e_bin, e_neg, e_inv, e_nt, e_cmp, e_cmp2, e_and, e_or, e_ite, e_tup, e_lst, e_sub, e_slc, e_att, e_ccon, e_call, e_new, e_isi, e_bi, e_bm, e_mth, e_lso, e_app, e_pop, e_popAt, e_comp, es_nil, es_cons, t_and, t_or, t_nt, t_var, t_cmp, t_cmp2, t_call, t_isi, t_bi, t_bin, t_att, t_mth, t_bl, src_of, src_range1, src_range2, src_enum, src_zip, src_rev, s_expr, s_set, s_hold, s_setsub, s_setatt, s_unpack, s_ite, s_for, s_ret, s_retN, s_pass, s_brk, s_cnt, s_never, ss_nil, ss_cons, b1_ok, b2_ok, bs_ok, bE_ok, bL_ok, bT_ok, bI_ok, sE_ok, sT_ok, sI_ok, seq_nx, seq_rt, fite_t, fite_f, gite_t, gite_f, fnot_e, gexpr_e, gret_e, fcon_e, rdc_v, rdc_o, rdc_b, rd_v, rd_o, rd_i, rd_l, m1_e, op1_e, m2_e, op2_e, mk_t, mk_f, okB_e, m2c_e, fcmp_e, m3_t, m3_f, mc2_e, fcmp2_e, cmp2_e, nt_e, neg_e, tru_bl, tru_int, tru_non, tru1_e, consO_e, rdcs_n, rdcs_c, bi1_e, mbi_e, nxO_e, toVal_v, toVal_o, toVal_b, mval_o, mval_v, toVals_n, toVals_c, tvc_e, mapd_e, gset_e, mset_e, ghold_o, ghold_v, asg_e, masg_u, masg_v, masg_o, gsub_e, fsub_e, gput_e, mput_e, mput2_e, mput3_e, fapp_e, app1_e, mapp_e, mapp2_e, mapp3_e, ownAt_e, mown_o, mown_i, isLst_e, mlst_e, varE_e, mvar_v, mvar_o, mvar_i, mvar_l, frng_e, mrng_e, mrng2_e, fof_e, mof_e, mof2_e, toSrc_v, toSrc_o, toSrc_b, msrc_o, msrc_l, items_l, items_t, ftup_e, flst_e, mtup_e, mlis_e, mtup2_e, fand_e, mand_t, mand_f, ret_v, ret_o, ret_b, mret_o, mret_ln, partR_t, partR_f, callG_e, mcall_e, mcall2_v, mcall2_o, mcall3_e, newG_e, mnew_e, mnew2_e, mnew3_e, give_n, give_c, gvc_e, gvm_e, give_v, mg1_e, give_rv, give_ro, give_rb, mgr_o, mgr_i, mgr_l, give_mo, give_mb, mgm_o, mgm_i, tb_n, tb_0, tb_i, tb_u, mtb_e, mtb2_e, fin_n, fin_r, mfin_e, mou_e, ou_n, ou_i, ou_v, ou_l, gatt_e, matt_e, matt2_e, matt3_e, getI0, getI1, setI0, setI1, omap_s, obind_s, nic_n, nic_i, bAdd, bSub, cLt, cLe, cGt, cGe, cEq, cNe, Bool.not_true, Bool.not_false, List.cons_append, List.nil_append, bi_lenT, rngOk_pow h7, Int.toNat_natCast]
    rw [cmpA (fun k => .int (g (k ||| 2 ^ j))) rfl FreeS.un (by omega) fun k hk => by
      simp only [sz0, sz1, sz2, sz3, sz4, sz5, sz6, sz7, sz8, sz9, sz10, sz11, sz12, sz13, sz14, e_var, e_non, e_bl, e_int, e_str, e_glo, e_bin, e_neg, e_inv, e_nt, e_cmp, e_cmp2, e_and, e_or, e_ite, e_tup, e_lst, e_sub, e_slc, e_att, e_ccon, e_call, e_new, e_isi, e_bi, e_bm, e_mth, e_lso, e_app, e_pop, e_popAt, e_comp, es_nil, es_cons, t_and, t_or, t_nt, t_var, t_cmp, t_cmp2, t_call, t_isi, t_bi, t_bin, t_att, t_mth, t_bl, src_of, src_range1, src_range2, src_enum, src_zip, src_rev, s_expr, s_set, s_hold, s_setsub, s_setatt, s_unpack, s_ite, s_for, s_ret, s_retN, s_pass, s_brk, s_cnt, s_never, ss_nil, ss_cons, b1_ok, b2_ok, bs_ok, bE_ok, bL_ok, bT_ok, bI_ok, sE_ok, sT_ok, sI_ok, seq_nx, seq_rt, fite_t, fite_f, gite_t, gite_f, fnot_e, gexpr_e, gret_e, fcon_e, rdc_v, rdc_o, rdc_b, rd_v, rd_o, rd_i, rd_l, m1_e, op1_e, m2_e, op2_e, mk_t, mk_f, okB_e, m2c_e, fcmp_e, m3_t, m3_f, mc2_e, fcmp2_e, cmp2_e, nt_e, neg_e, tru_bl, tru_int, tru_non, tru1_e, consO_e, rdcs_n, rdcs_c, bi1_e, mbi_e, nxO_e, toVal_v, toVal_o, toVal_b, mval_o, mval_v, toVals_n, toVals_c, tvc_e, mapd_e, gset_e, mset_e, ghold_o, ghold_v, asg_e, masg_u, masg_v, masg_o, gsub_e, fsub_e, gput_e, mput_e, mput2_e, mput3_e, fapp_e, app1_e, mapp_e, mapp2_e, mapp3_e, ownAt_e, mown_o, mown_i, isLst_e, mlst_e, varE_e, mvar_v, mvar_o, mvar_i, mvar_l, frng_e, mrng_e, mrng2_e, fof_e, mof_e, mof2_e, toSrc_v, toSrc_o, toSrc_b, msrc_o, msrc_l, items_l, items_t, ftup_e, flst_e, mtup_e, mlis_e, mtup2_e, fand_e, mand_t, mand_f, ret_v, ret_o, ret_b, mret_o, mret_ln, partR_t, partR_f, callG_e, mcall_e, mcall2_v, mcall2_o, mcall3_e, newG_e, mnew_e, mnew2_e, mnew3_e, give_n, give_c, gvc_e, gvm_e, give_v, mg1_e, give_rv, give_ro, give_rb, mgr_o, mgr_i, mgr_l, give_mo, give_mb, mgm_o, mgm_i, tb_n, tb_0, tb_i, tb_u, mtb_e, mtb2_e, fin_n, fin_r, mfin_e, mou_e, ou_n, ou_i, ou_v, ou_l, gatt_e, matt_e, matt2_e, matt3_e, getI0, getI1, setI0, setI1, omap_s, obind_s, nic_n, nic_i, bAdd, bSub, cLt, cLe, cGt, cGe, cEq, cNe, Bool.not_true, Bool.not_false, List.cons_append, List.nil_append, shl1 (show j ≤ 1000000 by omega), bOr, sub2_tab (or_lt hk hj)]]
    simp only [sz0, sz1, sz2, sz3, sz4, sz5, sz6, sz7, sz8, sz9, sz10, sz11, sz12, sz13, sz14, e_var, e_non, e_bl, e_int, e_str, e_glo, e_bin, e_neg, e_inv, e_nt, e_cmp, e_cmp2, e_and, e_or, e_ite, e_tup, e_lst, e_sub, e_slc, e_att, e_ccon, e_call, e_new, e_isi, e_bi, e_bm, e_mth, e_lso, e_app, e_pop, e_popAt, e_comp, es_nil, es_cons, t_and, t_or, t_nt, t_var, t_cmp, t_cmp2, t_call, t_isi, t_bi, t_bin, t_att, t_mth, t_bl, src_of, src_range1, src_range2, src_enum, src_zip, src_rev, s_expr, s_set, s_hold, s_setsub, s_setatt, s_unpack, s_ite, s_for, s_ret, s_retN, s_pass, s_brk, s_cnt, s_never, ss_nil, ss_cons, b1_ok, b2_ok, bs_ok, bE_ok, bL_ok, bT_ok, bI_ok, sE_ok, sT_ok, sI_ok, seq_nx, seq_rt, fite_t, fite_f, gite_t, gite_f, fnot_e, gexpr_e, gret_e, fcon_e, rdc_v, rdc_o, rdc_b, rd_v, rd_o, rd_i, rd_l, m1_e, op1_e, m2_e, op2_e, mk_t, mk_f, okB_e, m2c_e, fcmp_e, m3_t, m3_f, mc2_e, fcmp2_e, cmp2_e, nt_e, neg_e, tru_bl, tru_int, tru_non, tru1_e, consO_e, rdcs_n, rdcs_c, bi1_e, mbi_e, nxO_e, toVal_v, toVal_o, toVal_b, mval_o, mval_v, toVals_n, toVals_c, tvc_e, mapd_e, gset_e, mset_e, ghold_o, ghold_v, asg_e, masg_u, masg_v, masg_o, gsub_e, fsub_e, gput_e, mput_e, mput2_e, mput3_e, fapp_e, app1_e, mapp_e, mapp2_e, mapp3_e, ownAt_e, mown_o, mown_i, isLst_e, mlst_e, varE_e, mvar_v, mvar_o, mvar_i, mvar_l, frng_e, mrng_e, mrng2_e, fof_e, mof_e, mof2_e, toSrc_v, toSrc_o, toSrc_b, msrc_o, msrc_l, items_l, items_t, ftup_e, flst_e, mtup_e, mlis_e, mtup2_e, fand_e, mand_t, mand_f, ret_v, ret_o, ret_b, mret_o, mret_ln, partR_t, partR_f, callG_e, mcall_e, mcall2_v, mcall2_o, mcall3_e, newG_e, mnew_e, mnew2_e, mnew3_e, give_n, give_c, gvc_e, gvm_e, give_v, mg1_e, give_rv, give_ro, give_rb, mgr_o, mgr_i, mgr_l, give_mo, give_mb, mgm_o, mgm_i, tb_n, tb_0, tb_i, tb_u, mtb_e, mtb2_e, fin_n, fin_r, mfin_e, mou_e, ou_n, ou_i, ou_v, ou_l, gatt_e, matt_e, matt2_e, matt3_e, getI0, getI1, setI0, setI1, omap_s, obind_s, nic_n, nic_i, bAdd, bSub, cLt, cLe, cGt, cGe, cEq, cNe, Bool.not_true, Bool.not_false, List.cons_append, List.nil_append, masg_f f4, cEqT, ← idle1_iff]
    by_cases hi : idle1 h g j = true
    · simp only [sz0, sz1, sz2, sz3, sz4, sz5, sz6, sz7, sz8, sz9, sz10, sz11, sz12, sz13, sz14, e_var, e_non, e_bl, e_int, e_str, e_glo, e_bin, e_neg, e_inv, e_nt, e_cmp, e_cmp2, e_and, e_or, e_ite, e_tup, e_lst, e_sub, e_slc, e_att, e_ccon, e_call, e_new, e_isi, e_bi, e_bm, e_mth, e_lso, e_app, e_pop, e_popAt, e_comp, es_nil, es_cons, t_and, t_or, t_nt, t_var, t_cmp, t_cmp2, t_call, t_isi, t_bi, t_bin, t_att, t_mth, t_bl, src_of, src_range1, src_range2, src_enum, src_zip, src_rev, s_expr, s_set, s_hold, s_setsub, s_setatt, s_unpack, s_ite, s_for, s_ret, s_retN, s_pass, s_brk, s_cnt, s_never, ss_nil, ss_cons, b1_ok, b2_ok, bs_ok, bE_ok, bL_ok, bT_ok, bI_ok, sE_ok, sT_ok, sI_ok, seq_nx, seq_rt, fite_t, fite_f, gite_t, gite_f, fnot_e, gexpr_e, gret_e, fcon_e, rdc_v, rdc_o, rdc_b, rd_v, rd_o, rd_i, rd_l, m1_e, op1_e, m2_e, op2_e, mk_t, mk_f, okB_e, m2c_e, fcmp_e, m3_t, m3_f, mc2_e, fcmp2_e, cmp2_e, nt_e, neg_e, tru_bl, tru_int, tru_non, tru1_e, consO_e, rdcs_n, rdcs_c, bi1_e, mbi_e, nxO_e, toVal_v, toVal_o, toVal_b, mval_o, mval_v, toVals_n, toVals_c, tvc_e, mapd_e, gset_e, mset_e, ghold_o, ghold_v, asg_e, masg_u, masg_v, masg_o, gsub_e, fsub_e, gput_e, mput_e, mput2_e, mput3_e, fapp_e, app1_e, mapp_e, mapp2_e, mapp3_e, ownAt_e, mown_o, mown_i, isLst_e, mlst_e, varE_e, mvar_v, mvar_o, mvar_i, mvar_l, frng_e, mrng_e, mrng2_e, fof_e, mof_e, mof2_e, toSrc_v, toSrc_o, toSrc_b, msrc_o, msrc_l, items_l, items_t, ftup_e, flst_e, mtup_e, mlis_e, mtup2_e, fand_e, mand_t, mand_f, ret_v, ret_o, ret_b, mret_o, mret_ln, partR_t, partR_f, callG_e, mcall_e, mcall2_v, mcall2_o, mcall3_e, newG_e, mnew_e, mnew2_e, mnew3_e, give_n, give_c, gvc_e, gvm_e, give_v, mg1_e, give_rv, give_ro, give_rb, mgr_o, mgr_i, mgr_l, give_mo, give_mb, mgm_o, mgm_i, tb_n, tb_0, tb_i, tb_u, mtb_e, mtb2_e, fin_n, fin_r, mfin_e, mou_e, ou_n, ou_i, ou_v, ou_l, gatt_e, matt_e, matt2_e, matt3_e, getI0, getI1, setI0, setI1, omap_s, obind_s, nic_n, nic_i, bAdd, bSub, cLt, cLe, cGt, cGe, cEq, cNe, Bool.not_true, Bool.not_false, List.cons_append, List.nil_append, hi, hz]
      rw [filt_t (f := fun j : Nat => D.int (j : Int)) hi]
    · have hi : idle1 h g j = false := by simpa using hi
      simp only [sz0, sz1, sz2, sz3, sz4, sz5, sz6, sz7, sz8, sz9, sz10, sz11, sz12, sz13, sz14, e_var, e_non, e_bl, e_int, e_str, e_glo, e_bin, e_neg, e_inv, e_nt, e_cmp, e_cmp2, e_and, e_or, e_ite, e_tup, e_lst, e_sub, e_slc, e_att, e_ccon, e_call, e_new, e_isi, e_bi, e_bm, e_mth, e_lso, e_app, e_pop, e_popAt, e_comp, es_nil, es_cons, t_and, t_or, t_nt, t_var, t_cmp, t_cmp2, t_call, t_isi, t_bi, t_bin, t_att, t_mth, t_bl, src_of, src_range1, src_range2, src_enum, src_zip, src_rev, s_expr, s_set, s_hold, s_setsub, s_setatt, s_unpack, s_ite, s_for, s_ret, s_retN, s_pass, s_brk, s_cnt, s_never, ss_nil, ss_cons, b1_ok, b2_ok, bs_ok, bE_ok, bL_ok, bT_ok, bI_ok, sE_ok, sT_ok, sI_ok, seq_nx, seq_rt, fite_t, fite_f, gite_t, gite_f, fnot_e, gexpr_e, gret_e, fcon_e, rdc_v, rdc_o, rdc_b, rd_v, rd_o, rd_i, rd_l, m1_e, op1_e, m2_e, op2_e, mk_t, mk_f, okB_e, m2c_e, fcmp_e, m3_t, m3_f, mc2_e, fcmp2_e, cmp2_e, nt_e, neg_e, tru_bl, tru_int, tru_non, tru1_e, consO_e, rdcs_n, rdcs_c, bi1_e, mbi_e, nxO_e, toVal_v, toVal_o, toVal_b, mval_o, mval_v, toVals_n, toVals_c, tvc_e, mapd_e, gset_e, mset_e, ghold_o, ghold_v, asg_e, masg_u, masg_v, masg_o, gsub_e, fsub_e, gput_e, mput_e, mput2_e, mput3_e, fapp_e, app1_e, mapp_e, mapp2_e, mapp3_e, ownAt_e, mown_o, mown_i, isLst_e, mlst_e, varE_e, mvar_v, mvar_o, mvar_i, mvar_l, frng_e, mrng_e, mrng2_e, fof_e, mof_e, mof2_e, toSrc_v, toSrc_o, toSrc_b, msrc_o, msrc_l, items_l, items_t, ftup_e, flst_e, mtup_e, mlis_e, mtup2_e, fand_e, mand_t, mand_f, ret_v, ret_o, ret_b, mret_o, mret_ln, partR_t, partR_f, callG_e, mcall_e, mcall2_v, mcall2_o, mcall3_e, newG_e, mnew_e, mnew2_e, mnew3_e, give_n, give_c, gvc_e, gvm_e, give_v, mg1_e, give_rv, give_ro, give_rb, mgr_o, mgr_i, mgr_l, give_mo, give_mb, mgm_o, mgm_i, tb_n, tb_0, tb_i, tb_u, mtb_e, mtb2_e, fin_n, fin_r, mfin_e, mou_e, ou_n, ou_i, ou_v, ou_l, gatt_e, matt_e, matt2_e, matt3_e, getI0, getI1, setI0, setI1, omap_s, obind_s, nic_n, nic_i, bAdd, bSub, cLt, cLe, cGt, cGe, cEq, cNe, Bool.not_true, Bool.not_false, List.cons_append, List.nil_append, hi]
      rw [filt_f (f := fun j : Nat => D.int (j : Int)) hi]
  subst e eρ
  simp only [sz0, sz1, sz2, sz3, sz4, sz5, sz6, sz7, sz8, sz9, sz10, sz11, sz12, sz13, sz14, e_var, e_non, e_bl, e_int, e_str, e_glo, e_bin, e_neg, e_inv, e_nt, e_cmp, e_cmp2, e_and, e_or, e_ite, e_tup, e_lst, e_sub, e_slc, e_att, e_ccon, e_call, e_new, e_isi, e_bi, e_bm, e_mth, e_lso, e_app, e_pop, e_popAt, e_comp, es_nil, es_cons, t_and, t_or, t_nt, t_var, t_cmp, t_cmp2, t_call, t_isi, t_bi, t_bin, t_att, t_mth, t_bl, src_of, src_range1, src_range2, src_enum, src_zip, src_rev, s_expr, s_set, s_hold, s_setsub, s_setatt, s_unpack, s_ite, s_for, s_ret, s_retN, s_pass, s_brk, s_cnt, s_never, ss_nil, ss_cons, b1_ok, b2_ok, bs_ok, bE_ok, bL_ok, bT_ok, bI_ok, sE_ok, sT_ok, sI_ok, seq_nx, seq_rt, fite_t, fite_f, gite_t, gite_f, fnot_e, gexpr_e, gret_e, fcon_e, rdc_v, rdc_o, rdc_b, rd_v, rd_o, rd_i, rd_l, m1_e, op1_e, m2_e, op2_e, mk_t, mk_f, okB_e, m2c_e, fcmp_e, m3_t, m3_f, mc2_e, fcmp2_e, cmp2_e, nt_e, neg_e, tru_bl, tru_int, tru_non, tru1_e, consO_e, rdcs_n, rdcs_c, bi1_e, mbi_e, nxO_e, toVal_v, toVal_o, toVal_b, mval_o, mval_v, toVals_n, toVals_c, tvc_e, mapd_e, gset_e, mset_e, ghold_o, ghold_v, asg_e, masg_u, masg_v, masg_o, gsub_e, fsub_e, gput_e, mput_e, mput2_e, mput3_e, fapp_e, app1_e, mapp_e, mapp2_e, mapp3_e, ownAt_e, mown_o, mown_i, isLst_e, mlst_e, varE_e, mvar_v, mvar_o, mvar_i, mvar_l, frng_e, mrng_e, mrng2_e, fof_e, mof_e, mof2_e, toSrc_v, toSrc_o, toSrc_b, msrc_o, msrc_l, items_l, items_t, ftup_e, flst_e, mtup_e, mlis_e, mtup2_e, fand_e, mand_t, mand_f, ret_v, ret_o, ret_b, mret_o, mret_ln, partR_t, partR_f, callG_e, mcall_e, mcall2_v, mcall2_o, mcall3_e, newG_e, mnew_e, mnew2_e, mnew3_e, give_n, give_c, gvc_e, gvm_e, give_v, mg1_e, give_rv, give_ro, give_rb, mgr_o, mgr_i, mgr_l, give_mo, give_mb, mgm_o, mgm_i, tb_n, tb_0, tb_i, tb_u, mtb_e, mtb2_e, fin_n, fin_r, mfin_e, mou_e, ou_n, ou_i, ou_v, ou_l, gatt_e, matt_e, matt2_e, matt3_e, getI0, getI1, setI0, setI1, omap_s, obind_s, nic_n, nic_i, bAdd, bSub, cLt, cLe, cGt, cGe, cEq, cNe, Bool.not_true, Bool.not_false, List.cons_append, List.nil_append, bi_tuple]
  rfl
end Wf.L10

namespace Wf.L10
open PySem PySem.Spec PyProof.Rows L2 Wf
theorem law_amounts_run (n h : Nat) (g : Nat → Int) (h7 : h ≤ 7) : callF T (n + 1) 18 [.val (.int (h : Int)), .lk (.lst (tabI g (2 ^ h)))] = .ret (.own (.lst (tabI (fun j => am g j 0) h))) [.un, .un] := by
  have rh : rngOk (h : Int) = true := rngOk_of (by omega) (by omega)
  have p0 := Nat.two_pow_pos h
  rw [callF_at fn_law_amounts rfl]
  simp only [fd_law_amounts, c_law_amounts, List.length_cons, List.length_nil, List.replicate, List.cons_append, List.nil_append]
  simp only [sz0, sz1, sz2, sz3, sz4, sz5, sz6, sz7, sz8, sz9, sz10, sz11, sz12, sz13, sz14, e_var, e_non, e_bl, e_int, e_str, e_glo, e_bin, e_neg, e_inv, e_nt, e_cmp, e_cmp2, e_and, e_or, e_ite, e_tup, e_lst, e_sub, e_slc, e_att, e_ccon, e_call, e_new, e_isi, e_bi, e_bm, e_mth, e_lso, e_app, e_pop, e_popAt, e_comp, es_nil, es_cons, t_and, t_or, t_nt, t_var, t_cmp, t_cmp2, t_call, t_isi, t_bi, t_bin, t_att, t_mth, t_bl, src_of, src_range1, src_range2, src_enum, src_zip, src_rev, s_expr, s_set, s_hold, s_setsub, s_setatt, s_unpack, s_ite, s_for, s_ret, s_retN, s_pass, s_brk, s_cnt, s_never, ss_nil, ss_cons, b1_ok, b2_ok, bs_ok, bE_ok, bL_ok, bT_ok, bI_ok, sE_ok, sT_ok, sI_ok, seq_nx, seq_rt, fite_t, fite_f, gite_t, gite_f, fnot_e, gexpr_e, gret_e, fcon_e, rdc_v, rdc_o, rdc_b, rd_v, rd_o, rd_i, rd_l, m1_e, op1_e, m2_e, op2_e, mk_t, mk_f, okB_e, m2c_e, fcmp_e, m3_t, m3_f, mc2_e, fcmp2_e, cmp2_e, nt_e, neg_e, tru_bl, tru_int, tru_non, tru1_e, consO_e, rdcs_n, rdcs_c, bi1_e, mbi_e, nxO_e, toVal_v, toVal_o, toVal_b, mval_o, mval_v, toVals_n, toVals_c, tvc_e, mapd_e, gset_e, mset_e, ghold_o, ghold_v, asg_e, masg_u, masg_v, masg_o, gsub_e, fsub_e, gput_e, mput_e, mput2_e, mput3_e, fapp_e, app1_e, mapp_e, mapp2_e, mapp3_e, ownAt_e, mown_o, mown_i, isLst_e, mlst_e, varE_e, mvar_v, mvar_o, mvar_i, mvar_l, frng_e, mrng_e, mrng2_e, fof_e, mof_e, mof2_e, toSrc_v, toSrc_o, toSrc_b, msrc_o, msrc_l, items_l, items_t, ftup_e, flst_e, mtup_e, mlis_e, mtup2_e, fand_e, mand_t, mand_f, ret_v, ret_o, ret_b, mret_o, mret_ln, partR_t, partR_f, callG_e, mcall_e, mcall2_v, mcall2_o, mcall3_e, newG_e, mnew_e, mnew2_e, mnew3_e, give_n, give_c, gvc_e, gvm_e, give_v, mg1_e, give_rv, give_ro, give_rb, mgr_o, mgr_i, mgr_l, give_mo, give_mb, mgm_o, mgm_i, tb_n, tb_0, tb_i, tb_u, mtb_e, mtb2_e, fin_n, fin_r, mfin_e, mou_e, ou_n, ou_i, ou_v, ou_l, gatt_e, matt_e, matt2_e, matt3_e, getI0, getI1, setI0, setI1, omap_s, obind_s, nic_n, nic_i, bAdd, bSub, cLt, cLe, cGt, cGe, cEq, cNe, Bool.not_true, Bool.not_false, List.cons_append, List.nil_append, rh, Int.toNat_natCast]
  rw [cmpA (fun j => .int (am g j 0)) rfl FreeS.un (by omega) fun j hj => by
    have hl : 2 ^ j < 2 ^ h := Nat.pow_lt_pow_right (by decide) hj
    simp only [sz0, sz1, sz2, sz3, sz4, sz5, sz6, sz7, sz8, sz9, sz10, sz11, sz12, sz13, sz14, e_var, e_non, e_bl, e_int, e_str, e_glo, e_bin, e_neg, e_inv, e_nt, e_cmp, e_cmp2, e_and, e_or, e_ite, e_tup, e_lst, e_sub, e_slc, e_att, e_ccon, e_call, e_new, e_isi, e_bi, e_bm, e_mth, e_lso, e_app, e_pop, e_popAt, e_comp, es_nil, es_cons, t_and, t_or, t_nt, t_var, t_cmp, t_cmp2, t_call, t_isi, t_bi, t_bin, t_att, t_mth, t_bl, src_of, src_range1, src_range2, src_enum, src_zip, src_rev, s_expr, s_set, s_hold, s_setsub, s_setatt, s_unpack, s_ite, s_for, s_ret, s_retN, s_pass, s_brk, s_cnt, s_never, ss_nil, ss_cons, b1_ok, b2_ok, bs_ok, bE_ok, bL_ok, bT_ok, bI_ok, sE_ok, sT_ok, sI_ok, seq_nx, seq_rt, fite_t, fite_f, gite_t, gite_f, fnot_e, gexpr_e, gret_e, fcon_e, rdc_v, rdc_o, rdc_b, rd_v, rd_o, rd_i, rd_l, m1_e, op1_e, m2_e, op2_e, mk_t, mk_f, okB_e, m2c_e, fcmp_e, m3_t, m3_f, mc2_e, fcmp2_e, cmp2_e, nt_e, neg_e, tru_bl, tru_int, tru_non, tru1_e, consO_e, rdcs_n, rdcs_c, bi1_e, mbi_e, nxO_e, toVal_v, toVal_o, toVal_b, mval_o, mval_v, toVals_n, toVals_c, tvc_e, mapd_e, gset_e, mset_e, ghold_o, ghold_v, asg_e, masg_u, masg_v, masg_o, gsub_e, fsub_e, gput_e, mput_e, mput2_e, mput3_e, fapp_e, app1_e, mapp_e, mapp2_e, mapp3_e, ownAt_e, mown_o, mown_i, isLst_e, mlst_e, varE_e, mvar_v, mvar_o, mvar_i, mvar_l, frng_e, mrng_e, mrng2_e, fof_e, mof_e, mof2_e, toSrc_v, toSrc_o, toSrc_b, msrc_o, msrc_l, items_l, items_t, ftup_e, flst_e, mtup_e, mlis_e, mtup2_e, fand_e, mand_t, mand_f, ret_v, ret_o, ret_b, mret_o, mret_ln, partR_t, partR_f, callG_e, mcall_e, mcall2_v, mcall2_o, mcall3_e, newG_e, mnew_e, mnew2_e, mnew3_e, give_n, give_c, gvc_e, gvm_e, give_v, mg1_e, give_rv, give_ro, give_rb, mgr_o, mgr_i, mgr_l, give_mo, give_mb, mgm_o, mgm_i, tb_n, tb_0, tb_i, tb_u, mtb_e, mtb2_e, fin_n, fin_r, mfin_e, mou_e, ou_n, ou_i, ou_v, ou_l, gatt_e, matt_e, matt2_e, matt3_e, getI0, getI1, setI0, setI1, omap_s, obind_s, nic_n, nic_i, bAdd, bSub, cLt, cLe, cGt, cGe, cEq, cNe, Bool.not_true, Bool.not_false, List.cons_append, List.nil_append, shl1 (show j ≤ 1000000 by omega), sub2_tab hl, sub2_tab0 p0]
    unfold am
    rw [Nat.zero_or]]
  simp only [sz0, sz1, sz2, sz3, sz4, sz5, sz6, sz7, sz8, sz9, sz10, sz11, sz12, sz13, sz14, e_var, e_non, e_bl, e_int, e_str, e_glo, e_bin, e_neg, e_inv, e_nt, e_cmp, e_cmp2, e_and, e_or, e_ite, e_tup, e_lst, e_sub, e_slc, e_att, e_ccon, e_call, e_new, e_isi, e_bi, e_bm, e_mth, e_lso, e_app, e_pop, e_popAt, e_comp, es_nil, es_cons, t_and, t_or, t_nt, t_var, t_cmp, t_cmp2, t_call, t_isi, t_bi, t_bin, t_att, t_mth, t_bl, src_of, src_range1, src_range2, src_enum, src_zip, src_rev, s_expr, s_set, s_hold, s_setsub, s_setatt, s_unpack, s_ite, s_for, s_ret, s_retN, s_pass, s_brk, s_cnt, s_never, ss_nil, ss_cons, b1_ok, b2_ok, bs_ok, bE_ok, bL_ok, bT_ok, bI_ok, sE_ok, sT_ok, sI_ok, seq_nx, seq_rt, fite_t, fite_f, gite_t, gite_f, fnot_e, gexpr_e, gret_e, fcon_e, rdc_v, rdc_o, rdc_b, rd_v, rd_o, rd_i, rd_l, m1_e, op1_e, m2_e, op2_e, mk_t, mk_f, okB_e, m2c_e, fcmp_e, m3_t, m3_f, mc2_e, fcmp2_e, cmp2_e, nt_e, neg_e, tru_bl, tru_int, tru_non, tru1_e, consO_e, rdcs_n, rdcs_c, bi1_e, mbi_e, nxO_e, toVal_v, toVal_o, toVal_b, mval_o, mval_v, toVals_n, toVals_c, tvc_e, mapd_e, gset_e, mset_e, ghold_o, ghold_v, asg_e, masg_u, masg_v, masg_o, gsub_e, fsub_e, gput_e, mput_e, mput2_e, mput3_e, fapp_e, app1_e, mapp_e, mapp2_e, mapp3_e, ownAt_e, mown_o, mown_i, isLst_e, mlst_e, varE_e, mvar_v, mvar_o, mvar_i, mvar_l, frng_e, mrng_e, mrng2_e, fof_e, mof_e, mof2_e, toSrc_v, toSrc_o, toSrc_b, msrc_o, msrc_l, items_l, items_t, ftup_e, flst_e, mtup_e, mlis_e, mtup2_e, fand_e, mand_t, mand_f, ret_v, ret_o, ret_b, mret_o, mret_ln, partR_t, partR_f, callG_e, mcall_e, mcall2_v, mcall2_o, mcall3_e, newG_e, mnew_e, mnew2_e, mnew3_e, give_n, give_c, gvc_e, gvm_e, give_v, mg1_e, give_rv, give_ro, give_rb, mgr_o, mgr_i, mgr_l, give_mo, give_mb, mgm_o, mgm_i, tb_n, tb_0, tb_i, tb_u, mtb_e, mtb2_e, fin_n, fin_r, mfin_e, mou_e, ou_n, ou_i, ou_v, ou_l, gatt_e, matt_e, matt2_e, matt3_e, getI0, getI1, setI0, setI1, omap_s, obind_s, nic_n, nic_i, bAdd, bSub, cLt, cLe, cGt, cGe, cEq, cNe, Bool.not_true, Bool.not_false, List.cons_append, List.nil_append]
theorem law_fits_run (n h : Nat) (g : Nat → Int) (h7 : h ≤ 7) :
    (AllFit h g ∧ callF T (n + 1) 19 [.val (.int (h : Int)), .lk (.lst (tabI g (2 ^ h))), .val (.lst (tabI (fun j => am g j 0) h))] = .ret (.val (.bl true)) [.un, .un, .un]) ∨
    (¬ AllFit h g ∧ callF T (n + 1) 19 [.val (.int (h : Int)), .lk (.lst (tabI g (2 ^ h))), .val (.lst (tabI (fun j => am g j 0) h))] = .ret (.val (.bl false)) [.un, .un, .un]) := by
  have rh : rngOk (h : Int) = true := rngOk_of (by omega) (by omega)
  rw [callF_at fn_law_fits rfl]
  simp only [fd_law_fits, c_law_fits, List.length_cons, List.length_nil, List.replicate, List.cons_append, List.nil_append]
  simp only [sz0, sz1, sz2, sz3, sz4, sz5, sz6, sz7, sz8, sz9, sz10, sz11, sz12, sz13, sz14, e_var, e_non, e_bl, e_int, e_str, e_glo, e_bin, e_neg, e_inv, e_nt, e_cmp, e_cmp2, e_and, e_or, e_ite, e_tup, e_lst, e_sub, e_slc, e_att, e_ccon, e_call, e_new, e_isi, e_bi, e_bm, e_mth, e_lso, e_app, e_pop, e_popAt, e_comp, es_nil, es_cons, t_and, t_or, t_nt, t_var, t_cmp, t_cmp2, t_call, t_isi, t_bi, t_bin, t_att, t_mth, t_bl, src_of, src_range1, src_range2, src_enum, src_zip, src_rev, s_expr, s_set, s_hold, s_setsub, s_setatt, s_unpack, s_ite, s_for, s_ret, s_retN, s_pass, s_brk, s_cnt, s_never, ss_nil, ss_cons, b1_ok, b2_ok, bs_ok, bE_ok, bL_ok, bT_ok, bI_ok, sE_ok, sT_ok, sI_ok, seq_nx, seq_rt, fite_t, fite_f, gite_t, gite_f, fnot_e, gexpr_e, gret_e, fcon_e, rdc_v, rdc_o, rdc_b, rd_v, rd_o, rd_i, rd_l, m1_e, op1_e, m2_e, op2_e, mk_t, mk_f, okB_e, m2c_e, fcmp_e, m3_t, m3_f, mc2_e, fcmp2_e, cmp2_e, nt_e, neg_e, tru_bl, tru_int, tru_non, tru1_e, consO_e, rdcs_n, rdcs_c, bi1_e, mbi_e, nxO_e, toVal_v, toVal_o, toVal_b, mval_o, mval_v, toVals_n, toVals_c, tvc_e, mapd_e, gset_e, mset_e, ghold_o, ghold_v, asg_e, masg_u, masg_v, masg_o, gsub_e, fsub_e, gput_e, mput_e, mput2_e, mput3_e, fapp_e, app1_e, mapp_e, mapp2_e, mapp3_e, ownAt_e, mown_o, mown_i, isLst_e, mlst_e, varE_e, mvar_v, mvar_o, mvar_i, mvar_l, frng_e, mrng_e, mrng2_e, fof_e, mof_e, mof2_e, toSrc_v, toSrc_o, toSrc_b, msrc_o, msrc_l, items_l, items_t, ftup_e, flst_e, mtup_e, mlis_e, mtup2_e, fand_e, mand_t, mand_f, ret_v, ret_o, ret_b, mret_o, mret_ln, partR_t, partR_f, callG_e, mcall_e, mcall2_v, mcall2_o, mcall3_e, newG_e, mnew_e, mnew2_e, mnew3_e, give_n, give_c, gvc_e, gvm_e, give_v, mg1_e, give_rv, give_ro, give_rb, mgr_o, mgr_i, mgr_l, give_mo, give_mb, mgm_o, mgm_i, tb_n, tb_0, tb_i, tb_u, mtb_e, mtb2_e, fin_n, fin_r, mfin_e, mou_e, ou_n, ou_i, ou_v, ou_l, gatt_e, matt_e, matt2_e, matt3_e, getI0, getI1, setI0, setI1, omap_s, obind_s, nic_n, nic_i, bAdd, bSub, cLt, cLe, cGt, cGe, cEq, cNe, Bool.not_true, Bool.not_false, List.cons_append, List.nil_append, bi_lenT, rngOk_pow h7, Int.toNat_natCast]
  generalize hL : forB _ _ _ _ _ _ = L
  let B0 : Stms := (.cons (.set 5 (.bin .Sub (.sub (.var 1) (.bin .BitOr (.var 3) (.bin .LShift (.int 1) (.var 4)))) (.sub (.var 1) (.var 3)))) (.cons (.ite (.and (.nt (.bin .BitAnd (.var 3) (.bin .LShift (.int 1) (.var 4)))) (.cmp .NotEq (.var 5) (.sub (.var 2) (.var 4)))) (.cons (.ret (.bl false)) (.nil)) (.nil)) (.nil)))
  have key := forT (bd := bindT (.name 3)) (body := evalSs T (callF T n) (.cons (.for_ (.name 4) (.range1 (.var 0)) B0) (.nil)))
    (fun m => decide (∀ j, j < h → m.testBit j = false → am g j m = am g j 0)) (.val (.bl false)) (fun k ρ => ∃ s3 s4 s5, FreeS s3 ∧ FreeS s4 ∧ FreeS s5 ∧ ρ = [.val (.int (h : Int)), .lk (.lst (tabI g (2 ^ h))), .val (.lst (tabI (fun j => am g j 0) h)), s3, s4, s5]) (fun ρ => ∃ s1 s2 s3 r, ρ = s1 :: s2 :: s3 :: r)
    (n := 2 ^ h) (ρ := [.val (.int (h : Int)), .lk (.lst (tabI g (2 ^ h))), .val (.lst (tabI (fun j => am g j 0) h)), .un, .un, .un]) ⟨_, _, _, FreeS.un, FreeS.un, FreeS.un, rfl⟩ fun m ρ hm ⟨s3, s4, s5, f3, f4, f5, e⟩ => by
      subst e
      refine ⟨_, asg_free rfl f3, ?_⟩
      have inner := forT (bd := bindT (.name 4)) (body := evalSs T (callF T n) B0)
        (fun j => decide (m.testBit j = false → am g j m = am g j 0)) (.val (.bl false)) (fun k ρ => ∃ s4 s5, FreeS s4 ∧ FreeS s5 ∧ ρ = [.val (.int (h : Int)), .lk (.lst (tabI g (2 ^ h))), .val (.lst (tabI (fun j => am g j 0) h)), .val (.int (m : Int)), s4, s5]) (fun ρ => ∃ s1 s2 s3 r, ρ = s1 :: s2 :: s3 :: r)
        (n := h) (ρ := [.val (.int (h : Int)), .lk (.lst (tabI g (2 ^ h))), .val (.lst (tabI (fun j => am g j 0) h)), .val (.int (m : Int)), s4, s5]) ⟨_, _, f4, f5, rfl⟩ fun j ρ hj ⟨s4, s5, f4, f5, e⟩ => by
          subst e
          refine ⟨_, asg_free rfl f4, ?_⟩
          by_cases hb : m.testBit j = true
          · refine .inl ⟨by simp [hb], _, ?_, .val (.int (j : Int)), .val (.int (am g j m)), FreeS.val, FreeS.val, rfl⟩
            simp only [B0, sz0, sz1, sz2, sz3, sz4, sz5, sz6, sz7, sz8, sz9, sz10, sz11, sz12, sz13, sz14, e_var, e_non, e_bl, e_int, e_str, e_glo, e_bin, e_neg, e_inv, e_nt, e_cmp, e_cmp2, e_and, e_or, e_ite, e_tup, e_lst, e_sub, e_slc, e_att, e_ccon, e_call, e_new, e_isi, e_bi, e_bm, e_mth, e_lso, e_app, e_pop, e_popAt, e_comp, es_nil, es_cons, t_and, t_or, t_nt, t_var, t_cmp, t_cmp2, t_call, t_isi, t_bi, t_bin, t_att, t_mth, t_bl, src_of, src_range1, src_range2, src_enum, src_zip, src_rev, s_expr, s_set, s_hold, s_setsub, s_setatt, s_unpack, s_ite, s_for, s_ret, s_retN, s_pass, s_brk, s_cnt, s_never, ss_nil, ss_cons, b1_ok, b2_ok, bs_ok, bE_ok, bL_ok, bT_ok, bI_ok, sE_ok, sT_ok, sI_ok, seq_nx, seq_rt, fite_t, fite_f, gite_t, gite_f, fnot_e, gexpr_e, gret_e, fcon_e, rdc_v, rdc_o, rdc_b, rd_v, rd_o, rd_i, rd_l, m1_e, op1_e, m2_e, op2_e, mk_t, mk_f, okB_e, m2c_e, fcmp_e, m3_t, m3_f, mc2_e, fcmp2_e, cmp2_e, nt_e, neg_e, tru_bl, tru_int, tru_non, tru1_e, consO_e, rdcs_n, rdcs_c, bi1_e, mbi_e, nxO_e, toVal_v, toVal_o, toVal_b, mval_o, mval_v, toVals_n, toVals_c, tvc_e, mapd_e, gset_e, mset_e, ghold_o, ghold_v, asg_e, masg_u, masg_v, masg_o, gsub_e, fsub_e, gput_e, mput_e, mput2_e, mput3_e, fapp_e, app1_e, mapp_e, mapp2_e, mapp3_e, ownAt_e, mown_o, mown_i, isLst_e, mlst_e, varE_e, mvar_v, mvar_o, mvar_i, mvar_l, frng_e, mrng_e, mrng2_e, fof_e, mof_e, mof2_e, toSrc_v, toSrc_o, toSrc_b, msrc_o, msrc_l, items_l, items_t, ftup_e, flst_e, mtup_e, mlis_e, mtup2_e, fand_e, mand_t, mand_f, ret_v, ret_o, ret_b, mret_o, mret_ln, partR_t, partR_f, callG_e, mcall_e, mcall2_v, mcall2_o, mcall3_e, newG_e, mnew_e, mnew2_e, mnew3_e, give_n, give_c, gvc_e, gvm_e, give_v, mg1_e, give_rv, give_ro, give_rb, mgr_o, mgr_i, mgr_l, give_mo, give_mb, mgm_o, mgm_i, tb_n, tb_0, tb_i, tb_u, mtb_e, mtb2_e, fin_n, fin_r, mfin_e, mou_e, ou_n, ou_i, ou_v, ou_l, gatt_e, matt_e, matt2_e, matt3_e, getI0, getI1, setI0, setI1, omap_s, obind_s, nic_n, nic_i, bAdd, bSub, cLt, cLe, cGt, cGe, cEq, cNe, Bool.not_true, Bool.not_false, List.cons_append, List.nil_append, shl1 (show j ≤ 1000000 by omega), bOr, bAnd, bit_ne, hb, sub2_tab (or_lt hm hj), sub2_tab hm, masg_f f5]
            rfl
          · have hb : m.testBit j = false := by simpa using hb
            by_cases ha : am g j m = am g j 0
            · refine .inl ⟨by simp [ha], _, ?_, .val (.int (j : Int)), .val (.int (am g j m)), FreeS.val, FreeS.val, rfl⟩
              have d : decide (g (m ||| 2 ^ j) - g m = am g j 0) = true := decide_eq_true ha
              simp only [B0, sz0, sz1, sz2, sz3, sz4, sz5, sz6, sz7, sz8, sz9, sz10, sz11, sz12, sz13, sz14, e_var, e_non, e_bl, e_int, e_str, e_glo, e_bin, e_neg, e_inv, e_nt, e_cmp, e_cmp2, e_and, e_or, e_ite, e_tup, e_lst, e_sub, e_slc, e_att, e_ccon, e_call, e_new, e_isi, e_bi, e_bm, e_mth, e_lso, e_app, e_pop, e_popAt, e_comp, es_nil, es_cons, t_and, t_or, t_nt, t_var, t_cmp, t_cmp2, t_call, t_isi, t_bi, t_bin, t_att, t_mth, t_bl, src_of, src_range1, src_range2, src_enum, src_zip, src_rev, s_expr, s_set, s_hold, s_setsub, s_setatt, s_unpack, s_ite, s_for, s_ret, s_retN, s_pass, s_brk, s_cnt, s_never, ss_nil, ss_cons, b1_ok, b2_ok, bs_ok, bE_ok, bL_ok, bT_ok, bI_ok, sE_ok, sT_ok, sI_ok, seq_nx, seq_rt, fite_t, fite_f, gite_t, gite_f, fnot_e, gexpr_e, gret_e, fcon_e, rdc_v, rdc_o, rdc_b, rd_v, rd_o, rd_i, rd_l, m1_e, op1_e, m2_e, op2_e, mk_t, mk_f, okB_e, m2c_e, fcmp_e, m3_t, m3_f, mc2_e, fcmp2_e, cmp2_e, nt_e, neg_e, tru_bl, tru_int, tru_non, tru1_e, consO_e, rdcs_n, rdcs_c, bi1_e, mbi_e, nxO_e, toVal_v, toVal_o, toVal_b, mval_o, mval_v, toVals_n, toVals_c, tvc_e, mapd_e, gset_e, mset_e, ghold_o, ghold_v, asg_e, masg_u, masg_v, masg_o, gsub_e, fsub_e, gput_e, mput_e, mput2_e, mput3_e, fapp_e, app1_e, mapp_e, mapp2_e, mapp3_e, ownAt_e, mown_o, mown_i, isLst_e, mlst_e, varE_e, mvar_v, mvar_o, mvar_i, mvar_l, frng_e, mrng_e, mrng2_e, fof_e, mof_e, mof2_e, toSrc_v, toSrc_o, toSrc_b, msrc_o, msrc_l, items_l, items_t, ftup_e, flst_e, mtup_e, mlis_e, mtup2_e, fand_e, mand_t, mand_f, ret_v, ret_o, ret_b, mret_o, mret_ln, partR_t, partR_f, callG_e, mcall_e, mcall2_v, mcall2_o, mcall3_e, newG_e, mnew_e, mnew2_e, mnew3_e, give_n, give_c, gvc_e, gvm_e, give_v, mg1_e, give_rv, give_ro, give_rb, mgr_o, mgr_i, mgr_l, give_mo, give_mb, mgm_o, mgm_i, tb_n, tb_0, tb_i, tb_u, mtb_e, mtb2_e, fin_n, fin_r, mfin_e, mou_e, ou_n, ou_i, ou_v, ou_l, gatt_e, matt_e, matt2_e, matt3_e, getI0, getI1, setI0, setI1, omap_s, obind_s, nic_n, nic_i, bAdd, bSub, cLt, cLe, cGt, cGe, cEq, cNe, Bool.not_true, Bool.not_false, List.cons_append, List.nil_append, shl1 (show j ≤ 1000000 by omega), bOr, bAnd, bit_ne, hb, sub2_tab (or_lt hm hj), sub2_tab hm, sub2_tab hj, masg_f f5, d]
              rfl
            · refine .inr ⟨by simp [hb, ha], [.val (.int (h : Int)), .lk (.lst (tabI g (2 ^ h))), .val (.lst (tabI (fun j => am g j 0) h)), .val (.int (m : Int)), .val (.int (j : Int)), .val (.int (am g j m))], ?_, _, _, _, _, rfl⟩
              have d : decide (g (m ||| 2 ^ j) - g m = am g j 0) = false := decide_eq_false ha
              simp only [B0, sz0, sz1, sz2, sz3, sz4, sz5, sz6, sz7, sz8, sz9, sz10, sz11, sz12, sz13, sz14, e_var, e_non, e_bl, e_int, e_str, e_glo, e_bin, e_neg, e_inv, e_nt, e_cmp, e_cmp2, e_and, e_or, e_ite, e_tup, e_lst, e_sub, e_slc, e_att, e_ccon, e_call, e_new, e_isi, e_bi, e_bm, e_mth, e_lso, e_app, e_pop, e_popAt, e_comp, es_nil, es_cons, t_and, t_or, t_nt, t_var, t_cmp, t_cmp2, t_call, t_isi, t_bi, t_bin, t_att, t_mth, t_bl, src_of, src_range1, src_range2, src_enum, src_zip, src_rev, s_expr, s_set, s_hold, s_setsub, s_setatt, s_unpack, s_ite, s_for, s_ret, s_retN, s_pass, s_brk, s_cnt, s_never, ss_nil, ss_cons, b1_ok, b2_ok, bs_ok, bE_ok, bL_ok, bT_ok, bI_ok, sE_ok, sT_ok, sI_ok, seq_nx, seq_rt, fite_t, fite_f, gite_t, gite_f, fnot_e, gexpr_e, gret_e, fcon_e, rdc_v, rdc_o, rdc_b, rd_v, rd_o, rd_i, rd_l, m1_e, op1_e, m2_e, op2_e, mk_t, mk_f, okB_e, m2c_e, fcmp_e, m3_t, m3_f, mc2_e, fcmp2_e, cmp2_e, nt_e, neg_e, tru_bl, tru_int, tru_non, tru1_e, consO_e, rdcs_n, rdcs_c, bi1_e, mbi_e, nxO_e, toVal_v, toVal_o, toVal_b, mval_o, mval_v, toVals_n, toVals_c, tvc_e, mapd_e, gset_e, mset_e, ghold_o, ghold_v, asg_e, masg_u, masg_v, masg_o, gsub_e, fsub_e, gput_e, mput_e, mput2_e, mput3_e, fapp_e, app1_e, mapp_e, mapp2_e, mapp3_e, ownAt_e, mown_o, mown_i, isLst_e, mlst_e, varE_e, mvar_v, mvar_o, mvar_i, mvar_l, frng_e, mrng_e, mrng2_e, fof_e, mof_e, mof2_e, toSrc_v, toSrc_o, toSrc_b, msrc_o, msrc_l, items_l, items_t, ftup_e, flst_e, mtup_e, mlis_e, mtup2_e, fand_e, mand_t, mand_f, ret_v, ret_o, ret_b, mret_o, mret_ln, partR_t, partR_f, callG_e, mcall_e, mcall2_v, mcall2_o, mcall3_e, newG_e, mnew_e, mnew2_e, mnew3_e, give_n, give_c, gvc_e, gvm_e, give_v, mg1_e, give_rv, give_ro, give_rb, mgr_o, mgr_i, mgr_l, give_mo, give_mb, mgm_o, mgm_i, tb_n, tb_0, tb_i, tb_u, mtb_e, mtb2_e, fin_n, fin_r, mfin_e, mou_e, ou_n, ou_i, ou_v, ou_l, gatt_e, matt_e, matt2_e, matt3_e, getI0, getI1, setI0, setI1, omap_s, obind_s, nic_n, nic_i, bAdd, bSub, cLt, cLe, cGt, cGe, cEq, cNe, Bool.not_true, Bool.not_false, List.cons_append, List.nil_append, shl1 (show j ≤ 1000000 by omega), bOr, bAnd, bit_ne, hb, sub2_tab (or_lt hm hj), sub2_tab hm, sub2_tab hj, masg_f f5, d]
              rfl
      rcases inner with ⟨k1, ρ', e, t4, t5, g4, g5, eρ⟩ | ⟨⟨j, hj, k1⟩, ρ', e, s1, s2, t3, r, eρ⟩
      · refine .inl ⟨decide_eq_true fun j hj hb => (of_decide_eq_true (k1 j hj)) hb, ρ', ?_, .val (.int (m : Int)), t4, t5, FreeS.val, g4, g5, eρ⟩
        have e' : forB T (callF T n) (.name 4) B0 (iotaD 0 h) [.val (.int (h : Int)), .lk (.lst (tabI g (2 ^ h))), .val (.lst (tabI (fun j => am g j 0) h)), .val (.int (m : Int)), s4, s5] = .nx ρ' := e
        simp only [sz0, sz1, sz2, sz3, sz4, sz5, sz6, sz7, sz8, sz9, sz10, sz11, sz12, sz13, sz14, e_var, e_non, e_bl, e_int, e_str, e_glo, e_bin, e_neg, e_inv, e_nt, e_cmp, e_cmp2, e_and, e_or, e_ite, e_tup, e_lst, e_sub, e_slc, e_att, e_ccon, e_call, e_new, e_isi, e_bi, e_bm, e_mth, e_lso, e_app, e_pop, e_popAt, e_comp, es_nil, es_cons, t_and, t_or, t_nt, t_var, t_cmp, t_cmp2, t_call, t_isi, t_bi, t_bin, t_att, t_mth, t_bl, src_of, src_range1, src_range2, src_enum, src_zip, src_rev, s_expr, s_set, s_hold, s_setsub, s_setatt, s_unpack, s_ite, s_for, s_ret, s_retN, s_pass, s_brk, s_cnt, s_never, ss_nil, ss_cons, b1_ok, b2_ok, bs_ok, bE_ok, bL_ok, bT_ok, bI_ok, sE_ok, sT_ok, sI_ok, seq_nx, seq_rt, fite_t, fite_f, gite_t, gite_f, fnot_e, gexpr_e, gret_e, fcon_e, rdc_v, rdc_o, rdc_b, rd_v, rd_o, rd_i, rd_l, m1_e, op1_e, m2_e, op2_e, mk_t, mk_f, okB_e, m2c_e, fcmp_e, m3_t, m3_f, mc2_e, fcmp2_e, cmp2_e, nt_e, neg_e, tru_bl, tru_int, tru_non, tru1_e, consO_e, rdcs_n, rdcs_c, bi1_e, mbi_e, nxO_e, toVal_v, toVal_o, toVal_b, mval_o, mval_v, toVals_n, toVals_c, tvc_e, mapd_e, gset_e, mset_e, ghold_o, ghold_v, asg_e, masg_u, masg_v, masg_o, gsub_e, fsub_e, gput_e, mput_e, mput2_e, mput3_e, fapp_e, app1_e, mapp_e, mapp2_e, mapp3_e, ownAt_e, mown_o, mown_i, isLst_e, mlst_e, varE_e, mvar_v, mvar_o, mvar_i, mvar_l, frng_e, mrng_e, mrng2_e, fof_e, mof_e, mof2_e, toSrc_v, toSrc_o, toSrc_b, msrc_o, msrc_l, items_l, items_t, ftup_e, flst_e, mtup_e, mlis_e, mtup2_e, fand_e, mand_t, mand_f, ret_v, ret_o, ret_b, mret_o, mret_ln, partR_t, partR_f, callG_e, mcall_e, mcall2_v, mcall2_o, mcall3_e, newG_e, mnew_e, mnew2_e, mnew3_e, give_n, give_c, gvc_e, gvm_e, give_v, mg1_e, give_rv, give_ro, give_rb, mgr_o, mgr_i, mgr_l, give_mo, give_mb, mgm_o, mgm_i, tb_n, tb_0, tb_i, tb_u, mtb_e, mtb2_e, fin_n, fin_r, mfin_e, mou_e, ou_n, ou_i, ou_v, ou_l, gatt_e, matt_e, matt2_e, matt3_e, getI0, getI1, setI0, setI1, omap_s, obind_s, nic_n, nic_i, bAdd, bSub, cLt, cLe, cGt, cGe, cEq, cNe, Bool.not_true, Bool.not_false, List.cons_append, List.nil_append, rh, Int.toNat_natCast, e']
      · refine .inr ⟨decide_eq_false fun q => of_decide_eq_false k1 (q j hj), ρ', ?_, s1, s2, t3, r, eρ⟩
        have e' : forB T (callF T n) (.name 4) B0 (iotaD 0 h) [.val (.int (h : Int)), .lk (.lst (tabI g (2 ^ h))), .val (.lst (tabI (fun j => am g j 0) h)), .val (.int (m : Int)), s4, s5] = .rt (.val (.bl false)) ρ' := e
        simp only [sz0, sz1, sz2, sz3, sz4, sz5, sz6, sz7, sz8, sz9, sz10, sz11, sz12, sz13, sz14, e_var, e_non, e_bl, e_int, e_str, e_glo, e_bin, e_neg, e_inv, e_nt, e_cmp, e_cmp2, e_and, e_or, e_ite, e_tup, e_lst, e_sub, e_slc, e_att, e_ccon, e_call, e_new, e_isi, e_bi, e_bm, e_mth, e_lso, e_app, e_pop, e_popAt, e_comp, es_nil, es_cons, t_and, t_or, t_nt, t_var, t_cmp, t_cmp2, t_call, t_isi, t_bi, t_bin, t_att, t_mth, t_bl, src_of, src_range1, src_range2, src_enum, src_zip, src_rev, s_expr, s_set, s_hold, s_setsub, s_setatt, s_unpack, s_ite, s_for, s_ret, s_retN, s_pass, s_brk, s_cnt, s_never, ss_nil, ss_cons, b1_ok, b2_ok, bs_ok, bE_ok, bL_ok, bT_ok, bI_ok, sE_ok, sT_ok, sI_ok, seq_nx, seq_rt, fite_t, fite_f, gite_t, gite_f, fnot_e, gexpr_e, gret_e, fcon_e, rdc_v, rdc_o, rdc_b, rd_v, rd_o, rd_i, rd_l, m1_e, op1_e, m2_e, op2_e, mk_t, mk_f, okB_e, m2c_e, fcmp_e, m3_t, m3_f, mc2_e, fcmp2_e, cmp2_e, nt_e, neg_e, tru_bl, tru_int, tru_non, tru1_e, consO_e, rdcs_n, rdcs_c, bi1_e, mbi_e, nxO_e, toVal_v, toVal_o, toVal_b, mval_o, mval_v, toVals_n, toVals_c, tvc_e, mapd_e, gset_e, mset_e, ghold_o, ghold_v, asg_e, masg_u, masg_v, masg_o, gsub_e, fsub_e, gput_e, mput_e, mput2_e, mput3_e, fapp_e, app1_e, mapp_e, mapp2_e, mapp3_e, ownAt_e, mown_o, mown_i, isLst_e, mlst_e, varE_e, mvar_v, mvar_o, mvar_i, mvar_l, frng_e, mrng_e, mrng2_e, fof_e, mof_e, mof2_e, toSrc_v, toSrc_o, toSrc_b, msrc_o, msrc_l, items_l, items_t, ftup_e, flst_e, mtup_e, mlis_e, mtup2_e, fand_e, mand_t, mand_f, ret_v, ret_o, ret_b, mret_o, mret_ln, partR_t, partR_f, callG_e, mcall_e, mcall2_v, mcall2_o, mcall3_e, newG_e, mnew_e, mnew2_e, mnew3_e, give_n, give_c, gvc_e, gvm_e, give_v, mg1_e, give_rv, give_ro, give_rb, mgr_o, mgr_i, mgr_l, give_mo, give_mb, mgm_o, mgm_i, tb_n, tb_0, tb_i, tb_u, mtb_e, mtb2_e, fin_n, fin_r, mfin_e, mou_e, ou_n, ou_i, ou_v, ou_l, gatt_e, matt_e, matt2_e, matt3_e, getI0, getI1, setI0, setI1, omap_s, obind_s, nic_n, nic_i, bAdd, bSub, cLt, cLe, cGt, cGe, cEq, cNe, Bool.not_true, Bool.not_false, List.cons_append, List.nil_append, rh, Int.toNat_natCast, e']
  rcases key with ⟨k1, ρ', e, s3, s4, s5, f3, f4, f5, eρ⟩ | ⟨⟨m, hm, k1⟩, ρ', e, s1, s2, s3, r, eρ⟩
  · left
    refine ⟨fun m hm j hj hb => of_decide_eq_true (k1 m hm) j hj hb, ?_⟩
    have e : L = .nx ρ' := hL.symm.trans e
    subst e eρ
    simp only [sz0, sz1, sz2, sz3, sz4, sz5, sz6, sz7, sz8, sz9, sz10, sz11, sz12, sz13, sz14, e_var, e_non, e_bl, e_int, e_str, e_glo, e_bin, e_neg, e_inv, e_nt, e_cmp, e_cmp2, e_and, e_or, e_ite, e_tup, e_lst, e_sub, e_slc, e_att, e_ccon, e_call, e_new, e_isi, e_bi, e_bm, e_mth, e_lso, e_app, e_pop, e_popAt, e_comp, es_nil, es_cons, t_and, t_or, t_nt, t_var, t_cmp, t_cmp2, t_call, t_isi, t_bi, t_bin, t_att, t_mth, t_bl, src_of, src_range1, src_range2, src_enum, src_zip, src_rev, s_expr, s_set, s_hold, s_setsub, s_setatt, s_unpack, s_ite, s_for, s_ret, s_retN, s_pass, s_brk, s_cnt, s_never, ss_nil, ss_cons, b1_ok, b2_ok, bs_ok, bE_ok, bL_ok, bT_ok, bI_ok, sE_ok, sT_ok, sI_ok, seq_nx, seq_rt, fite_t, fite_f, gite_t, gite_f, fnot_e, gexpr_e, gret_e, fcon_e, rdc_v, rdc_o, rdc_b, rd_v, rd_o, rd_i, rd_l, m1_e, op1_e, m2_e, op2_e, mk_t, mk_f, okB_e, m2c_e, fcmp_e, m3_t, m3_f, mc2_e, fcmp2_e, cmp2_e, nt_e, neg_e, tru_bl, tru_int, tru_non, tru1_e, consO_e, rdcs_n, rdcs_c, bi1_e, mbi_e, nxO_e, toVal_v, toVal_o, toVal_b, mval_o, mval_v, toVals_n, toVals_c, tvc_e, mapd_e, gset_e, mset_e, ghold_o, ghold_v, asg_e, masg_u, masg_v, masg_o, gsub_e, fsub_e, gput_e, mput_e, mput2_e, mput3_e, fapp_e, app1_e, mapp_e, mapp2_e, mapp3_e, ownAt_e, mown_o, mown_i, isLst_e, mlst_e, varE_e, mvar_v, mvar_o, mvar_i, mvar_l, frng_e, mrng_e, mrng2_e, fof_e, mof_e, mof2_e, toSrc_v, toSrc_o, toSrc_b, msrc_o, msrc_l, items_l, items_t, ftup_e, flst_e, mtup_e, mlis_e, mtup2_e, fand_e, mand_t, mand_f, ret_v, ret_o, ret_b, mret_o, mret_ln, partR_t, partR_f, callG_e, mcall_e, mcall2_v, mcall2_o, mcall3_e, newG_e, mnew_e, mnew2_e, mnew3_e, give_n, give_c, gvc_e, gvm_e, give_v, mg1_e, give_rv, give_ro, give_rb, mgr_o, mgr_i, mgr_l, give_mo, give_mb, mgm_o, mgm_i, tb_n, tb_0, tb_i, tb_u, mtb_e, mtb2_e, fin_n, fin_r, mfin_e, mou_e, ou_n, ou_i, ou_v, ou_l, gatt_e, matt_e, matt2_e, matt3_e, getI0, getI1, setI0, setI1, omap_s, obind_s, nic_n, nic_i, bAdd, bSub, cLt, cLe, cGt, cGe, cEq, cNe, Bool.not_true, Bool.not_false, List.cons_append, List.nil_append]
  · right
    refine ⟨fun q => ?_, ?_⟩
    · exact of_decide_eq_false k1 fun j hj hb => q m hm j hj hb
    have e : L = .rt (.val (.bl false)) ρ' := hL.symm.trans e
    subst e eρ
    simp only [sz0, sz1, sz2, sz3, sz4, sz5, sz6, sz7, sz8, sz9, sz10, sz11, sz12, sz13, sz14, e_var, e_non, e_bl, e_int, e_str, e_glo, e_bin, e_neg, e_inv, e_nt, e_cmp, e_cmp2, e_and, e_or, e_ite, e_tup, e_lst, e_sub, e_slc, e_att, e_ccon, e_call, e_new, e_isi, e_bi, e_bm, e_mth, e_lso, e_app, e_pop, e_popAt, e_comp, es_nil, es_cons, t_and, t_or, t_nt, t_var, t_cmp, t_cmp2, t_call, t_isi, t_bi, t_bin, t_att, t_mth, t_bl, src_of, src_range1, src_range2, src_enum, src_zip, src_rev, s_expr, s_set, s_hold, s_setsub, s_setatt, s_unpack, s_ite, s_for, s_ret, s_retN, s_pass, s_brk, s_cnt, s_never, ss_nil, ss_cons, b1_ok, b2_ok, bs_ok, bE_ok, bL_ok, bT_ok, bI_ok, sE_ok, sT_ok, sI_ok, seq_nx, seq_rt, fite_t, fite_f, gite_t, gite_f, fnot_e, gexpr_e, gret_e, fcon_e, rdc_v, rdc_o, rdc_b, rd_v, rd_o, rd_i, rd_l, m1_e, op1_e, m2_e, op2_e, mk_t, mk_f, okB_e, m2c_e, fcmp_e, m3_t, m3_f, mc2_e, fcmp2_e, cmp2_e, nt_e, neg_e, tru_bl, tru_int, tru_non, tru1_e, consO_e, rdcs_n, rdcs_c, bi1_e, mbi_e, nxO_e, toVal_v, toVal_o, toVal_b, mval_o, mval_v, toVals_n, toVals_c, tvc_e, mapd_e, gset_e, mset_e, ghold_o, ghold_v, asg_e, masg_u, masg_v, masg_o, gsub_e, fsub_e, gput_e, mput_e, mput2_e, mput3_e, fapp_e, app1_e, mapp_e, mapp2_e, mapp3_e, ownAt_e, mown_o, mown_i, isLst_e, mlst_e, varE_e, mvar_v, mvar_o, mvar_i, mvar_l, frng_e, mrng_e, mrng2_e, fof_e, mof_e, mof2_e, toSrc_v, toSrc_o, toSrc_b, msrc_o, msrc_l, items_l, items_t, ftup_e, flst_e, mtup_e, mlis_e, mtup2_e, fand_e, mand_t, mand_f, ret_v, ret_o, ret_b, mret_o, mret_ln, partR_t, partR_f, callG_e, mcall_e, mcall2_v, mcall2_o, mcall3_e, newG_e, mnew_e, mnew2_e, mnew3_e, give_n, give_c, gvc_e, gvm_e, give_v, mg1_e, give_rv, give_ro, give_rb, mgr_o, mgr_i, mgr_l, give_mo, give_mb, mgm_o, mgm_i, tb_n, tb_0, tb_i, tb_u, mtb_e, mtb2_e, fin_n, fin_r, mfin_e, mou_e, ou_n, ou_i, ou_v, ou_l, gatt_e, matt_e, matt2_e, matt3_e, getI0, getI1, setI0, setI1, omap_s, obind_s, nic_n, nic_i, bAdd, bSub, cLt, cLe, cGt, cGe, cEq, cNe, Bool.not_true, Bool.not_false, List.cons_append, List.nil_append]

/-! ### what is due -/
def halfD (a : Int) : D := .tup [.int (hT a), .int (hB a)]
theorem due_halves_run (n h : Nat) (g : Nat → Int) (h7 : h ≤ 7) :
    (AllFit h g ∧ callF T (n + 2) 4 [.val (.int (h : Int)), .lk (.lst (tabI g (2 ^ h)))] = .ret (.own (.lst (tab (fun j => halfD (am g j 0)) h))) [.un, .un]) ∨
    (¬ AllFit h g ∧ callF T (n + 2) 4 [.val (.int (h : Int)), .lk (.lst (tabI g (2 ^ h)))] = .ret (.val .non) [.un, .un]) := by
  rw [callF_at fn_law_due_halves rfl]
  simp only [fd_law_due_halves, c_law_due_halves, List.length_cons, List.length_nil, List.replicate, List.cons_append, List.nil_append]
  have dv2 : divOk 2 = true := divOk_small (by decide) (by decide)
  rcases law_fits_run n h g h7 with ⟨F, ef⟩ | ⟨F, ef⟩
  · left
    refine ⟨F, ?_⟩
    simp only [sz0, sz1, sz2, sz3, sz4, sz5, sz6, sz7, sz8, sz9, sz10, sz11, sz12, sz13, sz14, e_var, e_non, e_bl, e_int, e_str, e_glo, e_bin, e_neg, e_inv, e_nt, e_cmp, e_cmp2, e_and, e_or, e_ite, e_tup, e_lst, e_sub, e_slc, e_att, e_ccon, e_call, e_new, e_isi, e_bi, e_bm, e_mth, e_lso, e_app, e_pop, e_popAt, e_comp, es_nil, es_cons, t_and, t_or, t_nt, t_var, t_cmp, t_cmp2, t_call, t_isi, t_bi, t_bin, t_att, t_mth, t_bl, src_of, src_range1, src_range2, src_enum, src_zip, src_rev, s_expr, s_set, s_hold, s_setsub, s_setatt, s_unpack, s_ite, s_for, s_ret, s_retN, s_pass, s_brk, s_cnt, s_never, ss_nil, ss_cons, b1_ok, b2_ok, bs_ok, bE_ok, bL_ok, bT_ok, bI_ok, sE_ok, sT_ok, sI_ok, seq_nx, seq_rt, fite_t, fite_f, gite_t, gite_f, fnot_e, gexpr_e, gret_e, fcon_e, rdc_v, rdc_o, rdc_b, rd_v, rd_o, rd_i, rd_l, m1_e, op1_e, m2_e, op2_e, mk_t, mk_f, okB_e, m2c_e, fcmp_e, m3_t, m3_f, mc2_e, fcmp2_e, cmp2_e, nt_e, neg_e, tru_bl, tru_int, tru_non, tru1_e, consO_e, rdcs_n, rdcs_c, bi1_e, mbi_e, nxO_e, toVal_v, toVal_o, toVal_b, mval_o, mval_v, toVals_n, toVals_c, tvc_e, mapd_e, gset_e, mset_e, ghold_o, ghold_v, asg_e, masg_u, masg_v, masg_o, gsub_e, fsub_e, gput_e, mput_e, mput2_e, mput3_e, fapp_e, app1_e, mapp_e, mapp2_e, mapp3_e, ownAt_e, mown_o, mown_i, isLst_e, mlst_e, varE_e, mvar_v, mvar_o, mvar_i, mvar_l, frng_e, mrng_e, mrng2_e, fof_e, mof_e, mof2_e, toSrc_v, toSrc_o, toSrc_b, msrc_o, msrc_l, items_l, items_t, ftup_e, flst_e, mtup_e, mlis_e, mtup2_e, fand_e, mand_t, mand_f, ret_v, ret_o, ret_b, mret_o, mret_ln, partR_t, partR_f, callG_e, mcall_e, mcall2_v, mcall2_o, mcall3_e, newG_e, mnew_e, mnew2_e, mnew3_e, give_n, give_c, gvc_e, gvm_e, give_v, mg1_e, give_rv, give_ro, give_rb, mgr_o, mgr_i, mgr_l, give_mo, give_mb, mgm_o, mgm_i, tb_n, tb_0, tb_i, tb_u, mtb_e, mtb2_e, fin_n, fin_r, mfin_e, mou_e, ou_n, ou_i, ou_v, ou_l, gatt_e, matt_e, matt2_e, matt3_e, getI0, getI1, setI0, setI1, omap_s, obind_s, nic_n, nic_i, bAdd, bSub, cLt, cLe, cGt, cGe, cEq, cNe, Bool.not_true, Bool.not_false, List.cons_append, List.nil_append, fn_law, fn_Scale___init, fn_law_digit, cd_law_digit, fn_law_by_amounts, cd_law_by_amounts, fn_law_due_halves, cd_law_due_halves, fn_additive, cd_additive, fn_law_same, cd_law_same, fn_law_push, cd_law_push, fn_law_pushed, cd_law_pushed, fn_law_halves, cd_law_halves, fn_law_adds_up, cd_law_adds_up, fn_idle_hands, cd_idle_hands, fn_law_idle, cd_law_idle, fn_check_hands, cd_check_hands, fn_check_length, cd_check_length, fn_check_opposite, cd_check_opposite, fn_check_rising, cd_check_rising, fn_check_number, cd_check_number, fn_law_amounts, cd_law_amounts, fn_law_fits, cd_law_fits, fn_amounts_of, cd_amounts_of, fn_Ratio___init, fn_rest_mask, cd_rest_mask, fn_with_hand, cd_with_hand, fn_has_hand, cd_has_hand, nd_Scale_2, nd_Ratio_1, nd_Ratio_2, at_Scale_hands, at_Scale_numbers, li_Scale, at_Ratio_top, at_Ratio_bottom, cc_Scale_MOST, gl_MOST_HANDS, gl_MOST_PART, is_Scale_non, is_Scale_bl, is_Scale_int, is_Scale_str, is_Scale_lst, is_Scale_tup, is_Scale_Scale, is_Scale_Ratio, is_bool_non, is_bool_bl, is_bool_int, is_bool_str, is_bool_lst, is_bool_tup, is_bool_Scale, is_bool_Ratio, is_int_non, is_int_bl, is_int_int, is_int_str, is_int_lst, is_int_tup, is_int_Scale, is_int_Ratio, is_str_non, is_str_bl, is_str_int, is_str_str, is_str_lst, is_str_tup, is_str_Scale, is_str_Ratio, is_list_non, is_list_bl, is_list_int, is_list_str, is_list_lst, is_list_tup, is_list_Scale, is_list_Ratio, is_tuple_non, is_tuple_bl, is_tuple_int, is_tuple_str, is_tuple_lst, is_tuple_tup, is_tuple_Scale, is_tuple_Ratio, is_Ratio_non, is_Ratio_bl, is_Ratio_int, is_Ratio_str, is_Ratio_lst, is_Ratio_tup, is_Ratio_Scale, is_Ratio_Ratio, law_amounts_run n h g h7, ef]
    generalize hL : forB _ _ _ _ _ _ = L
    obtain ⟨ρ', e, s4, f4, eρ⟩ : ∃ ρ', L = .nx ρ' ∧ ∃ s4, FreeS s4 ∧ ρ' = [.val (.int (h : Int)), .lk (.lst (tabI g (2 ^ h))), .val (.lst (tabI (fun j => am g j 0) h)), .own (.lst (tab (fun j => halfD (am g j 0)) h)), s4] := by
      rw [← hL]
      refine forTab (fun k ρ' => ∃ s4, FreeS s4 ∧ ρ' = [.val (.int (h : Int)), .lk (.lst (tabI g (2 ^ h))), .val (.lst (tabI (fun j => am g j 0) h)), .own (.lst (tab (fun j => halfD (am g j 0)) k)), s4]) ⟨_, FreeS.un, rfl⟩ fun j ρ hj ⟨s4, f4, e⟩ => ?_
      subst e
      refine ⟨_, _, asg_free rfl f4, ?_, .val (.int (am g j 0)), FreeS.val, rfl⟩
      by_cases ha : am g j 0 % 2 = 0
      · have d : decide (am g j 0 % 2 = 0) = true := decide_eq_true ha
        simp only [sz0, sz1, sz2, sz3, sz4, sz5, sz6, sz7, sz8, sz9, sz10, sz11, sz12, sz13, sz14, e_var, e_non, e_bl, e_int, e_str, e_glo, e_bin, e_neg, e_inv, e_nt, e_cmp, e_cmp2, e_and, e_or, e_ite, e_tup, e_lst, e_sub, e_slc, e_att, e_ccon, e_call, e_new, e_isi, e_bi, e_bm, e_mth, e_lso, e_app, e_pop, e_popAt, e_comp, es_nil, es_cons, t_and, t_or, t_nt, t_var, t_cmp, t_cmp2, t_call, t_isi, t_bi, t_bin, t_att, t_mth, t_bl, src_of, src_range1, src_range2, src_enum, src_zip, src_rev, s_expr, s_set, s_hold, s_setsub, s_setatt, s_unpack, s_ite, s_for, s_ret, s_retN, s_pass, s_brk, s_cnt, s_never, ss_nil, ss_cons, b1_ok, b2_ok, bs_ok, bE_ok, bL_ok, bT_ok, bI_ok, sE_ok, sT_ok, sI_ok, seq_nx, seq_rt, fite_t, fite_f, gite_t, gite_f, fnot_e, gexpr_e, gret_e, fcon_e, rdc_v, rdc_o, rdc_b, rd_v, rd_o, rd_i, rd_l, m1_e, op1_e, m2_e, op2_e, mk_t, mk_f, okB_e, m2c_e, fcmp_e, m3_t, m3_f, mc2_e, fcmp2_e, cmp2_e, nt_e, neg_e, tru_bl, tru_int, tru_non, tru1_e, consO_e, rdcs_n, rdcs_c, bi1_e, mbi_e, nxO_e, toVal_v, toVal_o, toVal_b, mval_o, mval_v, toVals_n, toVals_c, tvc_e, mapd_e, gset_e, mset_e, ghold_o, ghold_v, asg_e, masg_u, masg_v, masg_o, gsub_e, fsub_e, gput_e, mput_e, mput2_e, mput3_e, fapp_e, app1_e, mapp_e, mapp2_e, mapp3_e, ownAt_e, mown_o, mown_i, isLst_e, mlst_e, varE_e, mvar_v, mvar_o, mvar_i, mvar_l, frng_e, mrng_e, mrng2_e, fof_e, mof_e, mof2_e, toSrc_v, toSrc_o, toSrc_b, msrc_o, msrc_l, items_l, items_t, ftup_e, flst_e, mtup_e, mlis_e, mtup2_e, fand_e, mand_t, mand_f, ret_v, ret_o, ret_b, mret_o, mret_ln, partR_t, partR_f, callG_e, mcall_e, mcall2_v, mcall2_o, mcall3_e, newG_e, mnew_e, mnew2_e, mnew3_e, give_n, give_c, gvc_e, gvm_e, give_v, mg1_e, give_rv, give_ro, give_rb, mgr_o, mgr_i, mgr_l, give_mo, give_mb, mgm_o, mgm_i, tb_n, tb_0, tb_i, tb_u, mtb_e, mtb2_e, fin_n, fin_r, mfin_e, mou_e, ou_n, ou_i, ou_v, ou_l, gatt_e, matt_e, matt2_e, matt3_e, getI0, getI1, setI0, setI1, omap_s, obind_s, nic_n, nic_i, bAdd, bSub, cLt, cLe, cGt, cGe, cEq, cNe, Bool.not_true, Bool.not_false, List.cons_append, List.nil_append, bi_int, bMod (show (0 : Int) < 2 by decide), d, bDiv dv2, szT (show j ≤ 1000 by omega)]
        rw [tab_snoc (show halfD (am g j 0) = _ by unfold halfD hT hB; rw [if_pos ha, if_pos ha])]
      · have d : decide (am g j 0 % 2 = 0) = false := decide_eq_false ha
        simp only [sz0, sz1, sz2, sz3, sz4, sz5, sz6, sz7, sz8, sz9, sz10, sz11, sz12, sz13, sz14, e_var, e_non, e_bl, e_int, e_str, e_glo, e_bin, e_neg, e_inv, e_nt, e_cmp, e_cmp2, e_and, e_or, e_ite, e_tup, e_lst, e_sub, e_slc, e_att, e_ccon, e_call, e_new, e_isi, e_bi, e_bm, e_mth, e_lso, e_app, e_pop, e_popAt, e_comp, es_nil, es_cons, t_and, t_or, t_nt, t_var, t_cmp, t_cmp2, t_call, t_isi, t_bi, t_bin, t_att, t_mth, t_bl, src_of, src_range1, src_range2, src_enum, src_zip, src_rev, s_expr, s_set, s_hold, s_setsub, s_setatt, s_unpack, s_ite, s_for, s_ret, s_retN, s_pass, s_brk, s_cnt, s_never, ss_nil, ss_cons, b1_ok, b2_ok, bs_ok, bE_ok, bL_ok, bT_ok, bI_ok, sE_ok, sT_ok, sI_ok, seq_nx, seq_rt, fite_t, fite_f, gite_t, gite_f, fnot_e, gexpr_e, gret_e, fcon_e, rdc_v, rdc_o, rdc_b, rd_v, rd_o, rd_i, rd_l, m1_e, op1_e, m2_e, op2_e, mk_t, mk_f, okB_e, m2c_e, fcmp_e, m3_t, m3_f, mc2_e, fcmp2_e, cmp2_e, nt_e, neg_e, tru_bl, tru_int, tru_non, tru1_e, consO_e, rdcs_n, rdcs_c, bi1_e, mbi_e, nxO_e, toVal_v, toVal_o, toVal_b, mval_o, mval_v, toVals_n, toVals_c, tvc_e, mapd_e, gset_e, mset_e, ghold_o, ghold_v, asg_e, masg_u, masg_v, masg_o, gsub_e, fsub_e, gput_e, mput_e, mput2_e, mput3_e, fapp_e, app1_e, mapp_e, mapp2_e, mapp3_e, ownAt_e, mown_o, mown_i, isLst_e, mlst_e, varE_e, mvar_v, mvar_o, mvar_i, mvar_l, frng_e, mrng_e, mrng2_e, fof_e, mof_e, mof2_e, toSrc_v, toSrc_o, toSrc_b, msrc_o, msrc_l, items_l, items_t, ftup_e, flst_e, mtup_e, mlis_e, mtup2_e, fand_e, mand_t, mand_f, ret_v, ret_o, ret_b, mret_o, mret_ln, partR_t, partR_f, callG_e, mcall_e, mcall2_v, mcall2_o, mcall3_e, newG_e, mnew_e, mnew2_e, mnew3_e, give_n, give_c, gvc_e, gvm_e, give_v, mg1_e, give_rv, give_ro, give_rb, mgr_o, mgr_i, mgr_l, give_mo, give_mb, mgm_o, mgm_i, tb_n, tb_0, tb_i, tb_u, mtb_e, mtb2_e, fin_n, fin_r, mfin_e, mou_e, ou_n, ou_i, ou_v, ou_l, gatt_e, matt_e, matt2_e, matt3_e, getI0, getI1, setI0, setI1, omap_s, obind_s, nic_n, nic_i, bAdd, bSub, cLt, cLe, cGt, cGe, cEq, cNe, Bool.not_true, Bool.not_false, List.cons_append, List.nil_append, bi_int, bMod (show (0 : Int) < 2 by decide), d, szT (show j ≤ 1000 by omega)]
        rw [tab_snoc (show halfD (am g j 0) = _ by unfold halfD hT hB; rw [if_neg ha, if_neg ha])]
    subst e eρ
    simp only [sz0, sz1, sz2, sz3, sz4, sz5, sz6, sz7, sz8, sz9, sz10, sz11, sz12, sz13, sz14, e_var, e_non, e_bl, e_int, e_str, e_glo, e_bin, e_neg, e_inv, e_nt, e_cmp, e_cmp2, e_and, e_or, e_ite, e_tup, e_lst, e_sub, e_slc, e_att, e_ccon, e_call, e_new, e_isi, e_bi, e_bm, e_mth, e_lso, e_app, e_pop, e_popAt, e_comp, es_nil, es_cons, t_and, t_or, t_nt, t_var, t_cmp, t_cmp2, t_call, t_isi, t_bi, t_bin, t_att, t_mth, t_bl, src_of, src_range1, src_range2, src_enum, src_zip, src_rev, s_expr, s_set, s_hold, s_setsub, s_setatt, s_unpack, s_ite, s_for, s_ret, s_retN, s_pass, s_brk, s_cnt, s_never, ss_nil, ss_cons, b1_ok, b2_ok, bs_ok, bE_ok, bL_ok, bT_ok, bI_ok, sE_ok, sT_ok, sI_ok, seq_nx, seq_rt, fite_t, fite_f, gite_t, gite_f, fnot_e, gexpr_e, gret_e, fcon_e, rdc_v, rdc_o, rdc_b, rd_v, rd_o, rd_i, rd_l, m1_e, op1_e, m2_e, op2_e, mk_t, mk_f, okB_e, m2c_e, fcmp_e, m3_t, m3_f, mc2_e, fcmp2_e, cmp2_e, nt_e, neg_e, tru_bl, tru_int, tru_non, tru1_e, consO_e, rdcs_n, rdcs_c, bi1_e, mbi_e, nxO_e, toVal_v, toVal_o, toVal_b, mval_o, mval_v, toVals_n, toVals_c, tvc_e, mapd_e, gset_e, mset_e, ghold_o, ghold_v, asg_e, masg_u, masg_v, masg_o, gsub_e, fsub_e, gput_e, mput_e, mput2_e, mput3_e, fapp_e, app1_e, mapp_e, mapp2_e, mapp3_e, ownAt_e, mown_o, mown_i, isLst_e, mlst_e, varE_e, mvar_v, mvar_o, mvar_i, mvar_l, frng_e, mrng_e, mrng2_e, fof_e, mof_e, mof2_e, toSrc_v, toSrc_o, toSrc_b, msrc_o, msrc_l, items_l, items_t, ftup_e, flst_e, mtup_e, mlis_e, mtup2_e, fand_e, mand_t, mand_f, ret_v, ret_o, ret_b, mret_o, mret_ln, partR_t, partR_f, callG_e, mcall_e, mcall2_v, mcall2_o, mcall3_e, newG_e, mnew_e, mnew2_e, mnew3_e, give_n, give_c, gvc_e, gvm_e, give_v, mg1_e, give_rv, give_ro, give_rb, mgr_o, mgr_i, mgr_l, give_mo, give_mb, mgm_o, mgm_i, tb_n, tb_0, tb_i, tb_u, mtb_e, mtb2_e, fin_n, fin_r, mfin_e, mou_e, ou_n, ou_i, ou_v, ou_l, gatt_e, matt_e, matt2_e, matt3_e, getI0, getI1, setI0, setI1, omap_s, obind_s, nic_n, nic_i, bAdd, bSub, cLt, cLe, cGt, cGe, cEq, cNe, Bool.not_true, Bool.not_false, List.cons_append, List.nil_append]
  · right
    refine ⟨F, ?_⟩
    simp only [sz0, sz1, sz2, sz3, sz4, sz5, sz6, sz7, sz8, sz9, sz10, sz11, sz12, sz13, sz14, e_var, e_non, e_bl, e_int, e_str, e_glo, e_bin, e_neg, e_inv, e_nt, e_cmp, e_cmp2, e_and, e_or, e_ite, e_tup, e_lst, e_sub, e_slc, e_att, e_ccon, e_call, e_new, e_isi, e_bi, e_bm, e_mth, e_lso, e_app, e_pop, e_popAt, e_comp, es_nil, es_cons, t_and, t_or, t_nt, t_var, t_cmp, t_cmp2, t_call, t_isi, t_bi, t_bin, t_att, t_mth, t_bl, src_of, src_range1, src_range2, src_enum, src_zip, src_rev, s_expr, s_set, s_hold, s_setsub, s_setatt, s_unpack, s_ite, s_for, s_ret, s_retN, s_pass, s_brk, s_cnt, s_never, ss_nil, ss_cons, b1_ok, b2_ok, bs_ok, bE_ok, bL_ok, bT_ok, bI_ok, sE_ok, sT_ok, sI_ok, seq_nx, seq_rt, fite_t, fite_f, gite_t, gite_f, fnot_e, gexpr_e, gret_e, fcon_e, rdc_v, rdc_o, rdc_b, rd_v, rd_o, rd_i, rd_l, m1_e, op1_e, m2_e, op2_e, mk_t, mk_f, okB_e, m2c_e, fcmp_e, m3_t, m3_f, mc2_e, fcmp2_e, cmp2_e, nt_e, neg_e, tru_bl, tru_int, tru_non, tru1_e, consO_e, rdcs_n, rdcs_c, bi1_e, mbi_e, nxO_e, toVal_v, toVal_o, toVal_b, mval_o, mval_v, toVals_n, toVals_c, tvc_e, mapd_e, gset_e, mset_e, ghold_o, ghold_v, asg_e, masg_u, masg_v, masg_o, gsub_e, fsub_e, gput_e, mput_e, mput2_e, mput3_e, fapp_e, app1_e, mapp_e, mapp2_e, mapp3_e, ownAt_e, mown_o, mown_i, isLst_e, mlst_e, varE_e, mvar_v, mvar_o, mvar_i, mvar_l, frng_e, mrng_e, mrng2_e, fof_e, mof_e, mof2_e, toSrc_v, toSrc_o, toSrc_b, msrc_o, msrc_l, items_l, items_t, ftup_e, flst_e, mtup_e, mlis_e, mtup2_e, fand_e, mand_t, mand_f, ret_v, ret_o, ret_b, mret_o, mret_ln, partR_t, partR_f, callG_e, mcall_e, mcall2_v, mcall2_o, mcall3_e, newG_e, mnew_e, mnew2_e, mnew3_e, give_n, give_c, gvc_e, gvm_e, give_v, mg1_e, give_rv, give_ro, give_rb, mgr_o, mgr_i, mgr_l, give_mo, give_mb, mgm_o, mgm_i, tb_n, tb_0, tb_i, tb_u, mtb_e, mtb2_e, fin_n, fin_r, mfin_e, mou_e, ou_n, ou_i, ou_v, ou_l, gatt_e, matt_e, matt2_e, matt3_e, getI0, getI1, setI0, setI1, omap_s, obind_s, nic_n, nic_i, bAdd, bSub, cLt, cLe, cGt, cGe, cEq, cNe, Bool.not_true, Bool.not_false, List.cons_append, List.nil_append, fn_law, fn_Scale___init, fn_law_digit, cd_law_digit, fn_law_by_amounts, cd_law_by_amounts, fn_law_due_halves, cd_law_due_halves, fn_additive, cd_additive, fn_law_same, cd_law_same, fn_law_push, cd_law_push, fn_law_pushed, cd_law_pushed, fn_law_halves, cd_law_halves, fn_law_adds_up, cd_law_adds_up, fn_idle_hands, cd_idle_hands, fn_law_idle, cd_law_idle, fn_check_hands, cd_check_hands, fn_check_length, cd_check_length, fn_check_opposite, cd_check_opposite, fn_check_rising, cd_check_rising, fn_check_number, cd_check_number, fn_law_amounts, cd_law_amounts, fn_law_fits, cd_law_fits, fn_amounts_of, cd_amounts_of, fn_Ratio___init, fn_rest_mask, cd_rest_mask, fn_with_hand, cd_with_hand, fn_has_hand, cd_has_hand, nd_Scale_2, nd_Ratio_1, nd_Ratio_2, at_Scale_hands, at_Scale_numbers, li_Scale, at_Ratio_top, at_Ratio_bottom, cc_Scale_MOST, gl_MOST_HANDS, gl_MOST_PART, is_Scale_non, is_Scale_bl, is_Scale_int, is_Scale_str, is_Scale_lst, is_Scale_tup, is_Scale_Scale, is_Scale_Ratio, is_bool_non, is_bool_bl, is_bool_int, is_bool_str, is_bool_lst, is_bool_tup, is_bool_Scale, is_bool_Ratio, is_int_non, is_int_bl, is_int_int, is_int_str, is_int_lst, is_int_tup, is_int_Scale, is_int_Ratio, is_str_non, is_str_bl, is_str_int, is_str_str, is_str_lst, is_str_tup, is_str_Scale, is_str_Ratio, is_list_non, is_list_bl, is_list_int, is_list_str, is_list_lst, is_list_tup, is_list_Scale, is_list_Ratio, is_tuple_non, is_tuple_bl, is_tuple_int, is_tuple_str, is_tuple_lst, is_tuple_tup, is_tuple_Scale, is_tuple_Ratio, is_Ratio_non, is_Ratio_bl, is_Ratio_int, is_Ratio_str, is_Ratio_lst, is_Ratio_tup, is_Ratio_Scale, is_Ratio_Ratio, law_amounts_run n h g h7, ef]
theorem halves_non (n : Nat) : callF T (n + 1) 9 [.lk .non] = .ret (.val .non) [.un] := by
  rw [callF_at fn_law_halves rfl]
  simp only [fd_law_halves, c_law_halves, List.length_cons, List.length_nil, List.replicate, List.cons_append, List.nil_append]
  simp only [sz0, sz1, sz2, sz3, sz4, sz5, sz6, sz7, sz8, sz9, sz10, sz11, sz12, sz13, sz14, e_var, e_non, e_bl, e_int, e_str, e_glo, e_bin, e_neg, e_inv, e_nt, e_cmp, e_cmp2, e_and, e_or, e_ite, e_tup, e_lst, e_sub, e_slc, e_att, e_ccon, e_call, e_new, e_isi, e_bi, e_bm, e_mth, e_lso, e_app, e_pop, e_popAt, e_comp, es_nil, es_cons, t_and, t_or, t_nt, t_var, t_cmp, t_cmp2, t_call, t_isi, t_bi, t_bin, t_att, t_mth, t_bl, src_of, src_range1, src_range2, src_enum, src_zip, src_rev, s_expr, s_set, s_hold, s_setsub, s_setatt, s_unpack, s_ite, s_for, s_ret, s_retN, s_pass, s_brk, s_cnt, s_never, ss_nil, ss_cons, b1_ok, b2_ok, bs_ok, bE_ok, bL_ok, bT_ok, bI_ok, sE_ok, sT_ok, sI_ok, seq_nx, seq_rt, fite_t, fite_f, gite_t, gite_f, fnot_e, gexpr_e, gret_e, fcon_e, rdc_v, rdc_o, rdc_b, rd_v, rd_o, rd_i, rd_l, m1_e, op1_e, m2_e, op2_e, mk_t, mk_f, okB_e, m2c_e, fcmp_e, m3_t, m3_f, mc2_e, fcmp2_e, cmp2_e, nt_e, neg_e, tru_bl, tru_int, tru_non, tru1_e, consO_e, rdcs_n, rdcs_c, bi1_e, mbi_e, nxO_e, toVal_v, toVal_o, toVal_b, mval_o, mval_v, toVals_n, toVals_c, tvc_e, mapd_e, gset_e, mset_e, ghold_o, ghold_v, asg_e, masg_u, masg_v, masg_o, gsub_e, fsub_e, gput_e, mput_e, mput2_e, mput3_e, fapp_e, app1_e, mapp_e, mapp2_e, mapp3_e, ownAt_e, mown_o, mown_i, isLst_e, mlst_e, varE_e, mvar_v, mvar_o, mvar_i, mvar_l, frng_e, mrng_e, mrng2_e, fof_e, mof_e, mof2_e, toSrc_v, toSrc_o, toSrc_b, msrc_o, msrc_l, items_l, items_t, ftup_e, flst_e, mtup_e, mlis_e, mtup2_e, fand_e, mand_t, mand_f, ret_v, ret_o, ret_b, mret_o, mret_ln, partR_t, partR_f, callG_e, mcall_e, mcall2_v, mcall2_o, mcall3_e, newG_e, mnew_e, mnew2_e, mnew3_e, give_n, give_c, gvc_e, gvm_e, give_v, mg1_e, give_rv, give_ro, give_rb, mgr_o, mgr_i, mgr_l, give_mo, give_mb, mgm_o, mgm_i, tb_n, tb_0, tb_i, tb_u, mtb_e, mtb2_e, fin_n, fin_r, mfin_e, mou_e, ou_n, ou_i, ou_v, ou_l, gatt_e, matt_e, matt2_e, matt3_e, getI0, getI1, setI0, setI1, omap_s, obind_s, nic_n, nic_i, bAdd, bSub, cLt, cLe, cGt, cGe, cEq, cNe, Bool.not_true, Bool.not_false, List.cons_append, List.nil_append, fn_law, fn_Scale___init, fn_law_digit, cd_law_digit, fn_law_by_amounts, cd_law_by_amounts, fn_law_due_halves, cd_law_due_halves, fn_additive, cd_additive, fn_law_same, cd_law_same, fn_law_push, cd_law_push, fn_law_pushed, cd_law_pushed, fn_law_halves, cd_law_halves, fn_law_adds_up, cd_law_adds_up, fn_idle_hands, cd_idle_hands, fn_law_idle, cd_law_idle, fn_check_hands, cd_check_hands, fn_check_length, cd_check_length, fn_check_opposite, cd_check_opposite, fn_check_rising, cd_check_rising, fn_check_number, cd_check_number, fn_law_amounts, cd_law_amounts, fn_law_fits, cd_law_fits, fn_amounts_of, cd_amounts_of, fn_Ratio___init, fn_rest_mask, cd_rest_mask, fn_with_hand, cd_with_hand, fn_has_hand, cd_has_hand, nd_Scale_2, nd_Ratio_1, nd_Ratio_2, at_Scale_hands, at_Scale_numbers, li_Scale, at_Ratio_top, at_Ratio_bottom, cc_Scale_MOST, gl_MOST_HANDS, gl_MOST_PART, is_Scale_non, is_Scale_bl, is_Scale_int, is_Scale_str, is_Scale_lst, is_Scale_tup, is_Scale_Scale, is_Scale_Ratio, is_bool_non, is_bool_bl, is_bool_int, is_bool_str, is_bool_lst, is_bool_tup, is_bool_Scale, is_bool_Ratio, is_int_non, is_int_bl, is_int_int, is_int_str, is_int_lst, is_int_tup, is_int_Scale, is_int_Ratio, is_str_non, is_str_bl, is_str_int, is_str_str, is_str_lst, is_str_tup, is_str_Scale, is_str_Ratio, is_list_non, is_list_bl, is_list_int, is_list_str, is_list_lst, is_list_tup, is_list_Scale, is_list_Ratio, is_tuple_non, is_tuple_bl, is_tuple_int, is_tuple_str, is_tuple_lst, is_tuple_tup, is_tuple_Scale, is_tuple_Ratio, is_Ratio_non, is_Ratio_bl, is_Ratio_int, is_Ratio_str, is_Ratio_lst, is_Ratio_tup, is_Ratio_Scale, is_Ratio_Ratio]
theorem halves_run (n h : Nat) (A : Nat → Int) (h7 : h ≤ 7) : callF T (n + 1) 9 [.lk (.lst (tab (fun j => ratioD (A j)) h))] = .ret (.own (.lst (tab (fun j => halfD (A j)) h))) [.un] := by
  rw [callF_at fn_law_halves rfl]
  simp only [fd_law_halves, c_law_halves, List.length_cons, List.length_nil, List.replicate, List.cons_append, List.nil_append]
  simp only [sz0, sz1, sz2, sz3, sz4, sz5, sz6, sz7, sz8, sz9, sz10, sz11, sz12, sz13, sz14, e_var, e_non, e_bl, e_int, e_str, e_glo, e_bin, e_neg, e_inv, e_nt, e_cmp, e_cmp2, e_and, e_or, e_ite, e_tup, e_lst, e_sub, e_slc, e_att, e_ccon, e_call, e_new, e_isi, e_bi, e_bm, e_mth, e_lso, e_app, e_pop, e_popAt, e_comp, es_nil, es_cons, t_and, t_or, t_nt, t_var, t_cmp, t_cmp2, t_call, t_isi, t_bi, t_bin, t_att, t_mth, t_bl, src_of, src_range1, src_range2, src_enum, src_zip, src_rev, s_expr, s_set, s_hold, s_setsub, s_setatt, s_unpack, s_ite, s_for, s_ret, s_retN, s_pass, s_brk, s_cnt, s_never, ss_nil, ss_cons, b1_ok, b2_ok, bs_ok, bE_ok, bL_ok, bT_ok, bI_ok, sE_ok, sT_ok, sI_ok, seq_nx, seq_rt, fite_t, fite_f, gite_t, gite_f, fnot_e, gexpr_e, gret_e, fcon_e, rdc_v, rdc_o, rdc_b, rd_v, rd_o, rd_i, rd_l, m1_e, op1_e, m2_e, op2_e, mk_t, mk_f, okB_e, m2c_e, fcmp_e, m3_t, m3_f, mc2_e, fcmp2_e, cmp2_e, nt_e, neg_e, tru_bl, tru_int, tru_non, tru1_e, consO_e, rdcs_n, rdcs_c, bi1_e, mbi_e, nxO_e, toVal_v, toVal_o, toVal_b, mval_o, mval_v, toVals_n, toVals_c, tvc_e, mapd_e, gset_e, mset_e, ghold_o, ghold_v, asg_e, masg_u, masg_v, masg_o, gsub_e, fsub_e, gput_e, mput_e, mput2_e, mput3_e, fapp_e, app1_e, mapp_e, mapp2_e, mapp3_e, ownAt_e, mown_o, mown_i, isLst_e, mlst_e, varE_e, mvar_v, mvar_o, mvar_i, mvar_l, frng_e, mrng_e, mrng2_e, fof_e, mof_e, mof2_e, toSrc_v, toSrc_o, toSrc_b, msrc_o, msrc_l, items_l, items_t, ftup_e, flst_e, mtup_e, mlis_e, mtup2_e, fand_e, mand_t, mand_f, ret_v, ret_o, ret_b, mret_o, mret_ln, partR_t, partR_f, callG_e, mcall_e, mcall2_v, mcall2_o, mcall3_e, newG_e, mnew_e, mnew2_e, mnew3_e, give_n, give_c, gvc_e, gvm_e, give_v, mg1_e, give_rv, give_ro, give_rb, mgr_o, mgr_i, mgr_l, give_mo, give_mb, mgm_o, mgm_i, tb_n, tb_0, tb_i, tb_u, mtb_e, mtb2_e, fin_n, fin_r, mfin_e, mou_e, ou_n, ou_i, ou_v, ou_l, gatt_e, matt_e, matt2_e, matt3_e, getI0, getI1, setI0, setI1, omap_s, obind_s, nic_n, nic_i, bAdd, bSub, cLt, cLe, cGt, cGe, cEq, cNe, Bool.not_true, Bool.not_false, List.cons_append, List.nil_append, fn_law, fn_Scale___init, fn_law_digit, cd_law_digit, fn_law_by_amounts, cd_law_by_amounts, fn_law_due_halves, cd_law_due_halves, fn_additive, cd_additive, fn_law_same, cd_law_same, fn_law_push, cd_law_push, fn_law_pushed, cd_law_pushed, fn_law_halves, cd_law_halves, fn_law_adds_up, cd_law_adds_up, fn_idle_hands, cd_idle_hands, fn_law_idle, cd_law_idle, fn_check_hands, cd_check_hands, fn_check_length, cd_check_length, fn_check_opposite, cd_check_opposite, fn_check_rising, cd_check_rising, fn_check_number, cd_check_number, fn_law_amounts, cd_law_amounts, fn_law_fits, cd_law_fits, fn_amounts_of, cd_amounts_of, fn_Ratio___init, fn_rest_mask, cd_rest_mask, fn_with_hand, cd_with_hand, fn_has_hand, cd_has_hand, nd_Scale_2, nd_Ratio_1, nd_Ratio_2, at_Scale_hands, at_Scale_numbers, li_Scale, at_Ratio_top, at_Ratio_bottom, cc_Scale_MOST, gl_MOST_HANDS, gl_MOST_PART, is_Scale_non, is_Scale_bl, is_Scale_int, is_Scale_str, is_Scale_lst, is_Scale_tup, is_Scale_Scale, is_Scale_Ratio, is_bool_non, is_bool_bl, is_bool_int, is_bool_str, is_bool_lst, is_bool_tup, is_bool_Scale, is_bool_Ratio, is_int_non, is_int_bl, is_int_int, is_int_str, is_int_lst, is_int_tup, is_int_Scale, is_int_Ratio, is_str_non, is_str_bl, is_str_int, is_str_str, is_str_lst, is_str_tup, is_str_Scale, is_str_Ratio, is_list_non, is_list_bl, is_list_int, is_list_str, is_list_lst, is_list_tup, is_list_Scale, is_list_Ratio, is_tuple_non, is_tuple_bl, is_tuple_int, is_tuple_str, is_tuple_lst, is_tuple_tup, is_tuple_Scale, is_tuple_Ratio, is_Ratio_non, is_Ratio_bl, is_Ratio_int, is_Ratio_str, is_Ratio_lst, is_Ratio_tup, is_Ratio_Scale, is_Ratio_Ratio]
  generalize hL : forB _ _ _ _ _ _ = L
  obtain ⟨ρ', e, s2, f2, eρ⟩ : ∃ ρ', L = .nx ρ' ∧ ∃ s2, FreeS s2 ∧ ρ' = [.lk (.lst (tab (fun j => ratioD (A j)) h)), .own (.lst (tab (fun j => halfD (A j)) h)), s2] := by
    rw [← hL]
    refine forTab (fun k ρ' => ∃ s2, FreeS s2 ∧ ρ' = [.lk (.lst (tab (fun j => ratioD (A j)) h)), .own (.lst (tab (fun j => halfD (A j)) k)), s2]) ⟨_, FreeS.un, rfl⟩ fun j ρ hj ⟨s2, f2, e⟩ => ?_
    subst e
    refine ⟨_, _, asg_free rfl f2, ?_, .val (ratioD (A j)), FreeS.val, rfl⟩
    have i1 : isiD T (.cls 1) (ratioD (A j)) = some (false, .bl true) := id rfl
    have a4 : attD T 4 (ratioD (A j)) = some (false, .int (hT (A j))) := id rfl
    have a5 : attD T 5 (ratioD (A j)) = some (false, .int (hB (A j))) := id rfl
    simp only [sz0, sz1, sz2, sz3, sz4, sz5, sz6, sz7, sz8, sz9, sz10, sz11, sz12, sz13, sz14, e_var, e_non, e_bl, e_int, e_str, e_glo, e_bin, e_neg, e_inv, e_nt, e_cmp, e_cmp2, e_and, e_or, e_ite, e_tup, e_lst, e_sub, e_slc, e_att, e_ccon, e_call, e_new, e_isi, e_bi, e_bm, e_mth, e_lso, e_app, e_pop, e_popAt, e_comp, es_nil, es_cons, t_and, t_or, t_nt, t_var, t_cmp, t_cmp2, t_call, t_isi, t_bi, t_bin, t_att, t_mth, t_bl, src_of, src_range1, src_range2, src_enum, src_zip, src_rev, s_expr, s_set, s_hold, s_setsub, s_setatt, s_unpack, s_ite, s_for, s_ret, s_retN, s_pass, s_brk, s_cnt, s_never, ss_nil, ss_cons, b1_ok, b2_ok, bs_ok, bE_ok, bL_ok, bT_ok, bI_ok, sE_ok, sT_ok, sI_ok, seq_nx, seq_rt, fite_t, fite_f, gite_t, gite_f, fnot_e, gexpr_e, gret_e, fcon_e, rdc_v, rdc_o, rdc_b, rd_v, rd_o, rd_i, rd_l, m1_e, op1_e, m2_e, op2_e, mk_t, mk_f, okB_e, m2c_e, fcmp_e, m3_t, m3_f, mc2_e, fcmp2_e, cmp2_e, nt_e, neg_e, tru_bl, tru_int, tru_non, tru1_e, consO_e, rdcs_n, rdcs_c, bi1_e, mbi_e, nxO_e, toVal_v, toVal_o, toVal_b, mval_o, mval_v, toVals_n, toVals_c, tvc_e, mapd_e, gset_e, mset_e, ghold_o, ghold_v, asg_e, masg_u, masg_v, masg_o, gsub_e, fsub_e, gput_e, mput_e, mput2_e, mput3_e, fapp_e, app1_e, mapp_e, mapp2_e, mapp3_e, ownAt_e, mown_o, mown_i, isLst_e, mlst_e, varE_e, mvar_v, mvar_o, mvar_i, mvar_l, frng_e, mrng_e, mrng2_e, fof_e, mof_e, mof2_e, toSrc_v, toSrc_o, toSrc_b, msrc_o, msrc_l, items_l, items_t, ftup_e, flst_e, mtup_e, mlis_e, mtup2_e, fand_e, mand_t, mand_f, ret_v, ret_o, ret_b, mret_o, mret_ln, partR_t, partR_f, callG_e, mcall_e, mcall2_v, mcall2_o, mcall3_e, newG_e, mnew_e, mnew2_e, mnew3_e, give_n, give_c, gvc_e, gvm_e, give_v, mg1_e, give_rv, give_ro, give_rb, mgr_o, mgr_i, mgr_l, give_mo, give_mb, mgm_o, mgm_i, tb_n, tb_0, tb_i, tb_u, mtb_e, mtb2_e, fin_n, fin_r, mfin_e, mou_e, ou_n, ou_i, ou_v, ou_l, gatt_e, matt_e, matt2_e, matt3_e, getI0, getI1, setI0, setI1, omap_s, obind_s, nic_n, nic_i, bAdd, bSub, cLt, cLe, cGt, cGe, cEq, cNe, Bool.not_true, Bool.not_false, List.cons_append, List.nil_append, i1, a4, a5, szT (show j ≤ 1000 by omega)]
    rw [tab_snoc (show halfD (A j) = .tup [.int (hT (A j)), .int (hB (A j))] from rfl)]
  subst e eρ
  simp only [sz0, sz1, sz2, sz3, sz4, sz5, sz6, sz7, sz8, sz9, sz10, sz11, sz12, sz13, sz14, e_var, e_non, e_bl, e_int, e_str, e_glo, e_bin, e_neg, e_inv, e_nt, e_cmp, e_cmp2, e_and, e_or, e_ite, e_tup, e_lst, e_sub, e_slc, e_att, e_ccon, e_call, e_new, e_isi, e_bi, e_bm, e_mth, e_lso, e_app, e_pop, e_popAt, e_comp, es_nil, es_cons, t_and, t_or, t_nt, t_var, t_cmp, t_cmp2, t_call, t_isi, t_bi, t_bin, t_att, t_mth, t_bl, src_of, src_range1, src_range2, src_enum, src_zip, src_rev, s_expr, s_set, s_hold, s_setsub, s_setatt, s_unpack, s_ite, s_for, s_ret, s_retN, s_pass, s_brk, s_cnt, s_never, ss_nil, ss_cons, b1_ok, b2_ok, bs_ok, bE_ok, bL_ok, bT_ok, bI_ok, sE_ok, sT_ok, sI_ok, seq_nx, seq_rt, fite_t, fite_f, gite_t, gite_f, fnot_e, gexpr_e, gret_e, fcon_e, rdc_v, rdc_o, rdc_b, rd_v, rd_o, rd_i, rd_l, m1_e, op1_e, m2_e, op2_e, mk_t, mk_f, okB_e, m2c_e, fcmp_e, m3_t, m3_f, mc2_e, fcmp2_e, cmp2_e, nt_e, neg_e, tru_bl, tru_int, tru_non, tru1_e, consO_e, rdcs_n, rdcs_c, bi1_e, mbi_e, nxO_e, toVal_v, toVal_o, toVal_b, mval_o, mval_v, toVals_n, toVals_c, tvc_e, mapd_e, gset_e, mset_e, ghold_o, ghold_v, asg_e, masg_u, masg_v, masg_o, gsub_e, fsub_e, gput_e, mput_e, mput2_e, mput3_e, fapp_e, app1_e, mapp_e, mapp2_e, mapp3_e, ownAt_e, mown_o, mown_i, isLst_e, mlst_e, varE_e, mvar_v, mvar_o, mvar_i, mvar_l, frng_e, mrng_e, mrng2_e, fof_e, mof_e, mof2_e, toSrc_v, toSrc_o, toSrc_b, msrc_o, msrc_l, items_l, items_t, ftup_e, flst_e, mtup_e, mlis_e, mtup2_e, fand_e, mand_t, mand_f, ret_v, ret_o, ret_b, mret_o, mret_ln, partR_t, partR_f, callG_e, mcall_e, mcall2_v, mcall2_o, mcall3_e, newG_e, mnew_e, mnew2_e, mnew3_e, give_n, give_c, gvc_e, gvm_e, give_v, mg1_e, give_rv, give_ro, give_rb, mgr_o, mgr_i, mgr_l, give_mo, give_mb, mgm_o, mgm_i, tb_n, tb_0, tb_i, tb_u, mtb_e, mtb2_e, fin_n, fin_r, mfin_e, mou_e, ou_n, ou_i, ou_v, ou_l, gatt_e, matt_e, matt2_e, matt3_e, getI0, getI1, setI0, setI1, omap_s, obind_s, nic_n, nic_i, bAdd, bSub, cLt, cLe, cGt, cGe, cEq, cNe, Bool.not_true, Bool.not_false, List.cons_append, List.nil_append]
end Wf.L10

namespace Wf.L10
open PySem PySem.Spec PyProof.Rows L2 Wf
/-! ### what adds up -/
theorem half_eq (a : Int) : 2 * hT a / hB a = a := by
  unfold hT hB
  by_cases h : a % 2 = 0
  · rw [if_pos h, if_pos h]; omega
  · rw [if_neg h, if_neg h]; omega
theorem hB_ok (a : Int) : divOk (hB a) = true := by
  unfold hB
  split <;> exact divOk_small (by decide) (by decide)
theorem low_next {m k : Nat} : m % 2 ^ (k + 1) = if m.testBit k then (m % 2 ^ k) ||| 2 ^ k else m % 2 ^ k := by
  apply Nat.eq_of_testBit_eq
  intro i
  by_cases hb : m.testBit k = true
  · rw [if_pos hb, Nat.testBit_or, Nat.testBit_mod_two_pow, Nat.testBit_mod_two_pow, Nat.testBit_two_pow]
    by_cases e : k = i
    · subst e; simp [hb]
    · rw [decide_eq_false e, Bool.or_false, show decide (i < k + 1) = decide (i < k) from decide_eq_decide.mpr (by omega)]
  · rw [if_neg hb, Nat.testBit_mod_two_pow, Nat.testBit_mod_two_pow]
    by_cases e : k = i
    · subst e; simp at hb; simp [hb]
    · rw [show decide (i < k + 1) = decide (i < k) from decide_eq_decide.mpr (by omega)]
theorem g_near {h : Nat} {g : Nat → Int} (F : AllFit h g) {m : Nat} (hm : m < 2 ^ h) : ∀ k, k ≤ h → g (m % 2 ^ k) = g 0 + near (fun j => am g j 0) m k
  | 0, _ => by simp [near, sumT, Nat.mod_one]
  | k + 1, hk => by
    have ih := g_near F hm k (by omega)
    have hl : m % 2 ^ k < 2 ^ h := Nat.lt_of_lt_of_le (Nat.mod_lt _ (Nat.two_pow_pos k)) (Nat.pow_le_pow_right (by decide) (by omega))
    have hb : (m % 2 ^ k).testBit k = false := by rw [Nat.testBit_mod_two_pow]; simp
    rw [low_next]
    show _ = g 0 + (near (fun j => am g j 0) m k + if m.testBit k then am g k 0 else 0)
    by_cases e : m.testBit k = true
    · have f := F _ hl k (by omega) hb
      rw [if_pos e, if_pos e]
      have : g (m % 2 ^ k ||| 2 ^ k) - g (m % 2 ^ k) = am g k 0 := f
      omega
    · rw [if_neg e, if_neg e]; omega
theorem g_all {h : Nat} {g : Nat → Int} (F : AllFit h g) {m : Nat} (hm : m < 2 ^ h) : g m = g 0 + near (fun j => am g j 0) m h := by
  have := g_near F hm h (Nat.le_refl _)
  rw [Nat.mod_eq_of_lt hm] at this
  exact this
def tot (A : Nat → Int) (m : Nat) (n : Nat) : Int := sumT (fun j => if m.testBit j then A j else -A j) n
theorem tot_t {A : Nat → Int} {m j : Nat} (hb : m.testBit j = true) : tot A m (j + 1) = tot A m j + A j := by
  show tot A m j + (if m.testBit j then A j else -A j) = _
  rw [if_pos hb]
theorem tot_f {A : Nat → Int} {m j : Nat} (hb : m.testBit j = false) : tot A m (j + 1) = tot A m j + -A j := by
  show tot A m j + (if m.testBit j then A j else -A j) = _
  rw [if_neg (by rw [hb]; exact Bool.false_ne_true)]
theorem tot_near (A : Nat → Int) (m : Nat) : ∀ n, tot A m n = 2 * near A m n - sumT A n
  | 0 => rfl
  | n + 1 => by
    show tot A m n + (if m.testBit n then A n else -A n) = 2 * (near A m n + if m.testBit n then A n else 0) - (sumT A n + A n)
    rw [tot_near A m n]
    split <;> omega
theorem tot_eq {h : Nat} {g : Nat → Int} {B : Int} (N : Nums h g B) (F : AllFit h g) {m : Nat} (hm : m < 2 ^ h) : tot (fun j => am g j 0) m h = 2 * g m := by
  have l : 2 ^ h - 1 - m < 2 ^ h := by omega
  have a := g_all F hm
  have b := g_all F l
  have o := N.opp m hm
  have nr : near (fun j => am g j 0) m h + near (fun j => am g j 0) (2 ^ h - 1 - m) h = sumT (fun j => am g j 0) h := near_rest fun j hj => by rw [rest_bit hm, decide_eq_true hj, Bool.true_and]
  rw [tot_near]
  omega
theorem adds_up_run (n h : Nat) (g : Nat → Int) (B : Int) (h7 : h ≤ 7) (N : Nums h g B) (F : AllFit h g) :
    callF T (n + 1) 10 [.val (.int (h : Int)), .lk (.lst (tabI g (2 ^ h))), .val (.lst (tab (fun j => halfD (am g j 0)) h))] = .ret (.val (.bl true)) [.un, .un, .un] := by
  have rh : rngOk (h : Int) = true := rngOk_of (by omega) (by omega)
  have m2 : ∀ z, mulOk 2 z = true := fun z => mulOk_l rfl
  rw [callF_at fn_law_adds_up rfl]
  simp only [fd_law_adds_up, c_law_adds_up, List.length_cons, List.length_nil, List.replicate, List.cons_append, List.nil_append]
  simp only [sz0, sz1, sz2, sz3, sz4, sz5, sz6, sz7, sz8, sz9, sz10, sz11, sz12, sz13, sz14, e_var, e_non, e_bl, e_int, e_str, e_glo, e_bin, e_neg, e_inv, e_nt, e_cmp, e_cmp2, e_and, e_or, e_ite, e_tup, e_lst, e_sub, e_slc, e_att, e_ccon, e_call, e_new, e_isi, e_bi, e_bm, e_mth, e_lso, e_app, e_pop, e_popAt, e_comp, es_nil, es_cons, t_and, t_or, t_nt, t_var, t_cmp, t_cmp2, t_call, t_isi, t_bi, t_bin, t_att, t_mth, t_bl, src_of, src_range1, src_range2, src_enum, src_zip, src_rev, s_expr, s_set, s_hold, s_setsub, s_setatt, s_unpack, s_ite, s_for, s_ret, s_retN, s_pass, s_brk, s_cnt, s_never, ss_nil, ss_cons, b1_ok, b2_ok, bs_ok, bE_ok, bL_ok, bT_ok, bI_ok, sE_ok, sT_ok, sI_ok, seq_nx, seq_rt, fite_t, fite_f, gite_t, gite_f, fnot_e, gexpr_e, gret_e, fcon_e, rdc_v, rdc_o, rdc_b, rd_v, rd_o, rd_i, rd_l, m1_e, op1_e, m2_e, op2_e, mk_t, mk_f, okB_e, m2c_e, fcmp_e, m3_t, m3_f, mc2_e, fcmp2_e, cmp2_e, nt_e, neg_e, tru_bl, tru_int, tru_non, tru1_e, consO_e, rdcs_n, rdcs_c, bi1_e, mbi_e, nxO_e, toVal_v, toVal_o, toVal_b, mval_o, mval_v, toVals_n, toVals_c, tvc_e, mapd_e, gset_e, mset_e, ghold_o, ghold_v, asg_e, masg_u, masg_v, masg_o, gsub_e, fsub_e, gput_e, mput_e, mput2_e, mput3_e, fapp_e, app1_e, mapp_e, mapp2_e, mapp3_e, ownAt_e, mown_o, mown_i, isLst_e, mlst_e, varE_e, mvar_v, mvar_o, mvar_i, mvar_l, frng_e, mrng_e, mrng2_e, fof_e, mof_e, mof2_e, toSrc_v, toSrc_o, toSrc_b, msrc_o, msrc_l, items_l, items_t, ftup_e, flst_e, mtup_e, mlis_e, mtup2_e, fand_e, mand_t, mand_f, ret_v, ret_o, ret_b, mret_o, mret_ln, partR_t, partR_f, callG_e, mcall_e, mcall2_v, mcall2_o, mcall3_e, newG_e, mnew_e, mnew2_e, mnew3_e, give_n, give_c, gvc_e, gvm_e, give_v, mg1_e, give_rv, give_ro, give_rb, mgr_o, mgr_i, mgr_l, give_mo, give_mb, mgm_o, mgm_i, tb_n, tb_0, tb_i, tb_u, mtb_e, mtb2_e, fin_n, fin_r, mfin_e, mou_e, ou_n, ou_i, ou_v, ou_l, gatt_e, matt_e, matt2_e, matt3_e, getI0, getI1, setI0, setI1, omap_s, obind_s, nic_n, nic_i, bAdd, bSub, cLt, cLe, cGt, cGe, cEq, cNe, Bool.not_true, Bool.not_false, List.cons_append, List.nil_append, bi_lenT, rngOk_pow h7, Int.toNat_natCast]
  generalize hL : forB _ _ _ _ _ _ = L
  let R (k : Nat) (ρ' : Env) : Prop := ∃ s3 s4 s5 s6, FreeS s3 ∧ FreeS s4 ∧ FreeS s5 ∧ FreeS s6 ∧ ρ' = [.val (.int (h : Int)), .lk (.lst (tabI g (2 ^ h))), .val (.lst (tab (fun j => halfD (am g j 0)) h)), s3, s4, s5, s6]
  obtain ⟨ρ', e, s3, s4, s5, s6, f3, f4, f5, f6, eρ⟩ : ∃ ρ', L = .nx ρ' ∧ R (2 ^ h) ρ' := by
    rw [← hL]
    refine for0 R ⟨_, _, _, _, FreeS.un, FreeS.un, FreeS.un, FreeS.un, rfl⟩ fun m ρ hm ⟨s3, s4, s5, s6, f3, f4, f5, f6, e⟩ => ?_
    subst e
    let B0 : Stms := (.cons (.set 6 (.bin .FloorDiv (.bin .Mult (.int 2) (.sub (.sub (.var 2) (.var 5)) (.int 0))) (.sub (.sub (.var 2) (.var 5)) (.int 1)))) (.cons (.ite (.nt (.bin .BitAnd (.var 3) (.bin .LShift (.int 1) (.var 5)))) (.cons (.set 6 (.neg (.var 6))) (.nil)) (.nil)) (.cons (.set 4 (.bin .Add (.var 4) (.var 6))) (.nil))))
    obtain ⟨ρ2, e2, t5, t6, g5, g6, eρ2⟩ : ∃ ρ2, forB T (callF T n) (.name 5) B0 (iotaD 0 h) [.val (.int (h : Int)), .lk (.lst (tabI g (2 ^ h))), .val (.lst (tab (fun j => halfD (am g j 0)) h)), .val (.int (m : Int)), .val (.int 0), s5, s6] = .nx ρ2 ∧
        ∃ t5 t6, FreeS t5 ∧ FreeS t6 ∧ ρ2 = [.val (.int (h : Int)), .lk (.lst (tabI g (2 ^ h))), .val (.lst (tab (fun j => halfD (am g j 0)) h)), .val (.int (m : Int)), .val (.int (tot (fun j => am g j 0) m h)), t5, t6] := by
      refine for0 (fun k ρ2 => ∃ t5 t6, FreeS t5 ∧ FreeS t6 ∧ ρ2 = [.val (.int (h : Int)), .lk (.lst (tabI g (2 ^ h))), .val (.lst (tab (fun j => halfD (am g j 0)) h)), .val (.int (m : Int)), .val (.int (tot (fun j => am g j 0) m k)), t5, t6]) ⟨_, _, f5, f6, rfl⟩ fun j ρ hj ⟨t5, t6, g5, g6, e⟩ => ?_
      subst e
      have u0 : sub2 (halfD (am g j 0)) (.int 0) = some (false, .int (hT (am g j 0))) := id rfl
      have u1 : sub2 (halfD (am g j 0)) (.int 1) = some (false, .int (hB (am g j 0))) := id rfl
      by_cases hb : m.testBit j = true
      · refine ⟨_, _, asg_free rfl g5, ?_, .val (.int (j : Int)), .val (.int (am g j 0)), FreeS.val, FreeS.val, rfl⟩
        simp only [B0, sz0, sz1, sz2, sz3, sz4, sz5, sz6, sz7, sz8, sz9, sz10, sz11, sz12, sz13, sz14, e_var, e_non, e_bl, e_int, e_str, e_glo, e_bin, e_neg, e_inv, e_nt, e_cmp, e_cmp2, e_and, e_or, e_ite, e_tup, e_lst, e_sub, e_slc, e_att, e_ccon, e_call, e_new, e_isi, e_bi, e_bm, e_mth, e_lso, e_app, e_pop, e_popAt, e_comp, es_nil, es_cons, t_and, t_or, t_nt, t_var, t_cmp, t_cmp2, t_call, t_isi, t_bi, t_bin, t_att, t_mth, t_bl, src_of, src_range1, src_range2, src_enum, src_zip, src_rev, s_expr, s_set, s_hold, s_setsub, s_setatt, s_unpack, s_ite, s_for, s_ret, s_retN, s_pass, s_brk, s_cnt, s_never, ss_nil, ss_cons, b1_ok, b2_ok, bs_ok, bE_ok, bL_ok, bT_ok, bI_ok, sE_ok, sT_ok, sI_ok, seq_nx, seq_rt, fite_t, fite_f, gite_t, gite_f, fnot_e, gexpr_e, gret_e, fcon_e, rdc_v, rdc_o, rdc_b, rd_v, rd_o, rd_i, rd_l, m1_e, op1_e, m2_e, op2_e, mk_t, mk_f, okB_e, m2c_e, fcmp_e, m3_t, m3_f, mc2_e, fcmp2_e, cmp2_e, nt_e, neg_e, tru_bl, tru_int, tru_non, tru1_e, consO_e, rdcs_n, rdcs_c, bi1_e, mbi_e, nxO_e, toVal_v, toVal_o, toVal_b, mval_o, mval_v, toVals_n, toVals_c, tvc_e, mapd_e, gset_e, mset_e, ghold_o, ghold_v, asg_e, masg_u, masg_v, masg_o, gsub_e, fsub_e, gput_e, mput_e, mput2_e, mput3_e, fapp_e, app1_e, mapp_e, mapp2_e, mapp3_e, ownAt_e, mown_o, mown_i, isLst_e, mlst_e, varE_e, mvar_v, mvar_o, mvar_i, mvar_l, frng_e, mrng_e, mrng2_e, fof_e, mof_e, mof2_e, toSrc_v, toSrc_o, toSrc_b, msrc_o, msrc_l, items_l, items_t, ftup_e, flst_e, mtup_e, mlis_e, mtup2_e, fand_e, mand_t, mand_f, ret_v, ret_o, ret_b, mret_o, mret_ln, partR_t, partR_f, callG_e, mcall_e, mcall2_v, mcall2_o, mcall3_e, newG_e, mnew_e, mnew2_e, mnew3_e, give_n, give_c, gvc_e, gvm_e, give_v, mg1_e, give_rv, give_ro, give_rb, mgr_o, mgr_i, mgr_l, give_mo, give_mb, mgm_o, mgm_i, tb_n, tb_0, tb_i, tb_u, mtb_e, mtb2_e, fin_n, fin_r, mfin_e, mou_e, ou_n, ou_i, ou_v, ou_l, gatt_e, matt_e, matt2_e, matt3_e, getI0, getI1, setI0, setI1, omap_s, obind_s, nic_n, nic_i, bAdd, bSub, cLt, cLe, cGt, cGe, cEq, cNe, Bool.not_true, Bool.not_false, List.cons_append, List.nil_append, sub2_tab hj, u0, u1, bMul (m2 _), bDiv (hB_ok _), half_eq, shl1 (show j ≤ 1000000 by omega), bAnd, bit_ne, hb, masg_f g6]
        rw [tot_t hb]
      · have hb : m.testBit j = false := by simpa using hb
        refine ⟨_, _, asg_free rfl g5, ?_, .val (.int (j : Int)), .val (.int (-am g j 0)), FreeS.val, FreeS.val, rfl⟩
        simp only [B0, sz0, sz1, sz2, sz3, sz4, sz5, sz6, sz7, sz8, sz9, sz10, sz11, sz12, sz13, sz14, e_var, e_non, e_bl, e_int, e_str, e_glo, e_bin, e_neg, e_inv, e_nt, e_cmp, e_cmp2, e_and, e_or, e_ite, e_tup, e_lst, e_sub, e_slc, e_att, e_ccon, e_call, e_new, e_isi, e_bi, e_bm, e_mth, e_lso, e_app, e_pop, e_popAt, e_comp, es_nil, es_cons, t_and, t_or, t_nt, t_var, t_cmp, t_cmp2, t_call, t_isi, t_bi, t_bin, t_att, t_mth, t_bl, src_of, src_range1, src_range2, src_enum, src_zip, src_rev, s_expr, s_set, s_hold, s_setsub, s_setatt, s_unpack, s_ite, s_for, s_ret, s_retN, s_pass, s_brk, s_cnt, s_never, ss_nil, ss_cons, b1_ok, b2_ok, bs_ok, bE_ok, bL_ok, bT_ok, bI_ok, sE_ok, sT_ok, sI_ok, seq_nx, seq_rt, fite_t, fite_f, gite_t, gite_f, fnot_e, gexpr_e, gret_e, fcon_e, rdc_v, rdc_o, rdc_b, rd_v, rd_o, rd_i, rd_l, m1_e, op1_e, m2_e, op2_e, mk_t, mk_f, okB_e, m2c_e, fcmp_e, m3_t, m3_f, mc2_e, fcmp2_e, cmp2_e, nt_e, neg_e, tru_bl, tru_int, tru_non, tru1_e, consO_e, rdcs_n, rdcs_c, bi1_e, mbi_e, nxO_e, toVal_v, toVal_o, toVal_b, mval_o, mval_v, toVals_n, toVals_c, tvc_e, mapd_e, gset_e, mset_e, ghold_o, ghold_v, asg_e, masg_u, masg_v, masg_o, gsub_e, fsub_e, gput_e, mput_e, mput2_e, mput3_e, fapp_e, app1_e, mapp_e, mapp2_e, mapp3_e, ownAt_e, mown_o, mown_i, isLst_e, mlst_e, varE_e, mvar_v, mvar_o, mvar_i, mvar_l, frng_e, mrng_e, mrng2_e, fof_e, mof_e, mof2_e, toSrc_v, toSrc_o, toSrc_b, msrc_o, msrc_l, items_l, items_t, ftup_e, flst_e, mtup_e, mlis_e, mtup2_e, fand_e, mand_t, mand_f, ret_v, ret_o, ret_b, mret_o, mret_ln, partR_t, partR_f, callG_e, mcall_e, mcall2_v, mcall2_o, mcall3_e, newG_e, mnew_e, mnew2_e, mnew3_e, give_n, give_c, gvc_e, gvm_e, give_v, mg1_e, give_rv, give_ro, give_rb, mgr_o, mgr_i, mgr_l, give_mo, give_mb, mgm_o, mgm_i, tb_n, tb_0, tb_i, tb_u, mtb_e, mtb2_e, fin_n, fin_r, mfin_e, mou_e, ou_n, ou_i, ou_v, ou_l, gatt_e, matt_e, matt2_e, matt3_e, getI0, getI1, setI0, setI1, omap_s, obind_s, nic_n, nic_i, bAdd, bSub, cLt, cLe, cGt, cGe, cEq, cNe, Bool.not_true, Bool.not_false, List.cons_append, List.nil_append, sub2_tab hj, u0, u1, bMul (m2 _), bDiv (hB_ok _), half_eq, shl1 (show j ≤ 1000000 by omega), bAnd, bit_ne, hb, masg_f g6]
        rw [tot_f hb]
    simp only [B0] at e2
    rw [tot_eq N F hm] at eρ2
    subst eρ2
    refine ⟨_, [.val (.int (h : Int)), .lk (.lst (tabI g (2 ^ h))), .val (.lst (tab (fun j => halfD (am g j 0)) h)), .val (.int (m : Int)), .val (.int (2 * g m)), t5, t6], asg_free rfl f3, ?_, .val (.int (m : Int)), .val (.int (2 * g m)), t5, t6, FreeS.val, FreeS.val, g5, g6, rfl⟩
    simp only [sz0, sz1, sz2, sz3, sz4, sz5, sz6, sz7, sz8, sz9, sz10, sz11, sz12, sz13, sz14, e_var, e_non, e_bl, e_int, e_str, e_glo, e_bin, e_neg, e_inv, e_nt, e_cmp, e_cmp2, e_and, e_or, e_ite, e_tup, e_lst, e_sub, e_slc, e_att, e_ccon, e_call, e_new, e_isi, e_bi, e_bm, e_mth, e_lso, e_app, e_pop, e_popAt, e_comp, es_nil, es_cons, t_and, t_or, t_nt, t_var, t_cmp, t_cmp2, t_call, t_isi, t_bi, t_bin, t_att, t_mth, t_bl, src_of, src_range1, src_range2, src_enum, src_zip, src_rev, s_expr, s_set, s_hold, s_setsub, s_setatt, s_unpack, s_ite, s_for, s_ret, s_retN, s_pass, s_brk, s_cnt, s_never, ss_nil, ss_cons, b1_ok, b2_ok, bs_ok, bE_ok, bL_ok, bT_ok, bI_ok, sE_ok, sT_ok, sI_ok, seq_nx, seq_rt, fite_t, fite_f, gite_t, gite_f, fnot_e, gexpr_e, gret_e, fcon_e, rdc_v, rdc_o, rdc_b, rd_v, rd_o, rd_i, rd_l, m1_e, op1_e, m2_e, op2_e, mk_t, mk_f, okB_e, m2c_e, fcmp_e, m3_t, m3_f, mc2_e, fcmp2_e, cmp2_e, nt_e, neg_e, tru_bl, tru_int, tru_non, tru1_e, consO_e, rdcs_n, rdcs_c, bi1_e, mbi_e, nxO_e, toVal_v, toVal_o, toVal_b, mval_o, mval_v, toVals_n, toVals_c, tvc_e, mapd_e, gset_e, mset_e, ghold_o, ghold_v, asg_e, masg_u, masg_v, masg_o, gsub_e, fsub_e, gput_e, mput_e, mput2_e, mput3_e, fapp_e, app1_e, mapp_e, mapp2_e, mapp3_e, ownAt_e, mown_o, mown_i, isLst_e, mlst_e, varE_e, mvar_v, mvar_o, mvar_i, mvar_l, frng_e, mrng_e, mrng2_e, fof_e, mof_e, mof2_e, toSrc_v, toSrc_o, toSrc_b, msrc_o, msrc_l, items_l, items_t, ftup_e, flst_e, mtup_e, mlis_e, mtup2_e, fand_e, mand_t, mand_f, ret_v, ret_o, ret_b, mret_o, mret_ln, partR_t, partR_f, callG_e, mcall_e, mcall2_v, mcall2_o, mcall3_e, newG_e, mnew_e, mnew2_e, mnew3_e, give_n, give_c, gvc_e, gvm_e, give_v, mg1_e, give_rv, give_ro, give_rb, mgr_o, mgr_i, mgr_l, give_mo, give_mb, mgm_o, mgm_i, tb_n, tb_0, tb_i, tb_u, mtb_e, mtb2_e, fin_n, fin_r, mfin_e, mou_e, ou_n, ou_i, ou_v, ou_l, gatt_e, matt_e, matt2_e, matt3_e, getI0, getI1, setI0, setI1, omap_s, obind_s, nic_n, nic_i, bAdd, bSub, cLt, cLe, cGt, cGe, cEq, cNe, Bool.not_true, Bool.not_false, List.cons_append, List.nil_append, masg_f f4, rh, Int.toNat_natCast, e2, sub2_tab hm, bMul (m2 _), decide_true]
  subst e eρ
  simp only [sz0, sz1, sz2, sz3, sz4, sz5, sz6, sz7, sz8, sz9, sz10, sz11, sz12, sz13, sz14, e_var, e_non, e_bl, e_int, e_str, e_glo, e_bin, e_neg, e_inv, e_nt, e_cmp, e_cmp2, e_and, e_or, e_ite, e_tup, e_lst, e_sub, e_slc, e_att, e_ccon, e_call, e_new, e_isi, e_bi, e_bm, e_mth, e_lso, e_app, e_pop, e_popAt, e_comp, es_nil, es_cons, t_and, t_or, t_nt, t_var, t_cmp, t_cmp2, t_call, t_isi, t_bi, t_bin, t_att, t_mth, t_bl, src_of, src_range1, src_range2, src_enum, src_zip, src_rev, s_expr, s_set, s_hold, s_setsub, s_setatt, s_unpack, s_ite, s_for, s_ret, s_retN, s_pass, s_brk, s_cnt, s_never, ss_nil, ss_cons, b1_ok, b2_ok, bs_ok, bE_ok, bL_ok, bT_ok, bI_ok, sE_ok, sT_ok, sI_ok, seq_nx, seq_rt, fite_t, fite_f, gite_t, gite_f, fnot_e, gexpr_e, gret_e, fcon_e, rdc_v, rdc_o, rdc_b, rd_v, rd_o, rd_i, rd_l, m1_e, op1_e, m2_e, op2_e, mk_t, mk_f, okB_e, m2c_e, fcmp_e, m3_t, m3_f, mc2_e, fcmp2_e, cmp2_e, nt_e, neg_e, tru_bl, tru_int, tru_non, tru1_e, consO_e, rdcs_n, rdcs_c, bi1_e, mbi_e, nxO_e, toVal_v, toVal_o, toVal_b, mval_o, mval_v, toVals_n, toVals_c, tvc_e, mapd_e, gset_e, mset_e, ghold_o, ghold_v, asg_e, masg_u, masg_v, masg_o, gsub_e, fsub_e, gput_e, mput_e, mput2_e, mput3_e, fapp_e, app1_e, mapp_e, mapp2_e, mapp3_e, ownAt_e, mown_o, mown_i, isLst_e, mlst_e, varE_e, mvar_v, mvar_o, mvar_i, mvar_l, frng_e, mrng_e, mrng2_e, fof_e, mof_e, mof2_e, toSrc_v, toSrc_o, toSrc_b, msrc_o, msrc_l, items_l, items_t, ftup_e, flst_e, mtup_e, mlis_e, mtup2_e, fand_e, mand_t, mand_f, ret_v, ret_o, ret_b, mret_o, mret_ln, partR_t, partR_f, callG_e, mcall_e, mcall2_v, mcall2_o, mcall3_e, newG_e, mnew_e, mnew2_e, mnew3_e, give_n, give_c, gvc_e, gvm_e, give_v, mg1_e, give_rv, give_ro, give_rb, mgr_o, mgr_i, mgr_l, give_mo, give_mb, mgm_o, mgm_i, tb_n, tb_0, tb_i, tb_u, mtb_e, mtb2_e, fin_n, fin_r, mfin_e, mou_e, ou_n, ou_i, ou_v, ou_l, gatt_e, matt_e, matt2_e, matt3_e, getI0, getI1, setI0, setI1, omap_s, obind_s, nic_n, nic_i, bAdd, bSub, cLt, cLe, cGt, cGe, cEq, cNe, Bool.not_true, Bool.not_false, List.cons_append, List.nil_append]
/-! ### same -/
theorem cNeB {a b : Bool} : cmpD .NotEq (.bl a) (.bl b) = some (a != b) := by cases a <;> cases b <;> rfl
theorem cIsL {xs : List D} : cmpD .Is (.lst xs) .non = some false := id rfl
theorem cIsT {xs : List D} : cmpD .Is (.tup xs) .non = some false := id rfl
theorem cIsI {i : Int} : cmpD .Is (.int i) .non = some false := id rfl
theorem cIsN : cmpD .Is .non .non = some true := id rfl
theorem bi_lenU {ds : List D} : biD .len [.tup ds] = some (false, .int ds.length) := id rfl
theorem same_non (n : Nat) : callF T (n + 1) 6 [.val .non, .lk .non] = .ret (.val (.bl true)) [.un, .un] := by
  rw [callF_at fn_law_same rfl]
  simp only [fd_law_same, c_law_same, List.length_cons, List.length_nil, List.replicate, List.cons_append, List.nil_append]
  simp only [sz0, sz1, sz2, sz3, sz4, sz5, sz6, sz7, sz8, sz9, sz10, sz11, sz12, sz13, sz14, e_var, e_non, e_bl, e_int, e_str, e_glo, e_bin, e_neg, e_inv, e_nt, e_cmp, e_cmp2, e_and, e_or, e_ite, e_tup, e_lst, e_sub, e_slc, e_att, e_ccon, e_call, e_new, e_isi, e_bi, e_bm, e_mth, e_lso, e_app, e_pop, e_popAt, e_comp, es_nil, es_cons, t_and, t_or, t_nt, t_var, t_cmp, t_cmp2, t_call, t_isi, t_bi, t_bin, t_att, t_mth, t_bl, src_of, src_range1, src_range2, src_enum, src_zip, src_rev, s_expr, s_set, s_hold, s_setsub, s_setatt, s_unpack, s_ite, s_for, s_ret, s_retN, s_pass, s_brk, s_cnt, s_never, ss_nil, ss_cons, b1_ok, b2_ok, bs_ok, bE_ok, bL_ok, bT_ok, bI_ok, sE_ok, sT_ok, sI_ok, seq_nx, seq_rt, fite_t, fite_f, gite_t, gite_f, fnot_e, gexpr_e, gret_e, fcon_e, rdc_v, rdc_o, rdc_b, rd_v, rd_o, rd_i, rd_l, m1_e, op1_e, m2_e, op2_e, mk_t, mk_f, okB_e, m2c_e, fcmp_e, m3_t, m3_f, mc2_e, fcmp2_e, cmp2_e, nt_e, neg_e, tru_bl, tru_int, tru_non, tru1_e, consO_e, rdcs_n, rdcs_c, bi1_e, mbi_e, nxO_e, toVal_v, toVal_o, toVal_b, mval_o, mval_v, toVals_n, toVals_c, tvc_e, mapd_e, gset_e, mset_e, ghold_o, ghold_v, asg_e, masg_u, masg_v, masg_o, gsub_e, fsub_e, gput_e, mput_e, mput2_e, mput3_e, fapp_e, app1_e, mapp_e, mapp2_e, mapp3_e, ownAt_e, mown_o, mown_i, isLst_e, mlst_e, varE_e, mvar_v, mvar_o, mvar_i, mvar_l, frng_e, mrng_e, mrng2_e, fof_e, mof_e, mof2_e, toSrc_v, toSrc_o, toSrc_b, msrc_o, msrc_l, items_l, items_t, ftup_e, flst_e, mtup_e, mlis_e, mtup2_e, fand_e, mand_t, mand_f, ret_v, ret_o, ret_b, mret_o, mret_ln, partR_t, partR_f, callG_e, mcall_e, mcall2_v, mcall2_o, mcall3_e, newG_e, mnew_e, mnew2_e, mnew3_e, give_n, give_c, gvc_e, gvm_e, give_v, mg1_e, give_rv, give_ro, give_rb, mgr_o, mgr_i, mgr_l, give_mo, give_mb, mgm_o, mgm_i, tb_n, tb_0, tb_i, tb_u, mtb_e, mtb2_e, fin_n, fin_r, mfin_e, mou_e, ou_n, ou_i, ou_v, ou_l, gatt_e, matt_e, matt2_e, matt3_e, getI0, getI1, setI0, setI1, omap_s, obind_s, nic_n, nic_i, bAdd, bSub, cLt, cLe, cGt, cGe, cEq, cNe, Bool.not_true, Bool.not_false, List.cons_append, List.nil_append, fn_law, fn_Scale___init, fn_law_digit, cd_law_digit, fn_law_by_amounts, cd_law_by_amounts, fn_law_due_halves, cd_law_due_halves, fn_additive, cd_additive, fn_law_same, cd_law_same, fn_law_push, cd_law_push, fn_law_pushed, cd_law_pushed, fn_law_halves, cd_law_halves, fn_law_adds_up, cd_law_adds_up, fn_idle_hands, cd_idle_hands, fn_law_idle, cd_law_idle, fn_check_hands, cd_check_hands, fn_check_length, cd_check_length, fn_check_opposite, cd_check_opposite, fn_check_rising, cd_check_rising, fn_check_number, cd_check_number, fn_law_amounts, cd_law_amounts, fn_law_fits, cd_law_fits, fn_amounts_of, cd_amounts_of, fn_Ratio___init, fn_rest_mask, cd_rest_mask, fn_with_hand, cd_with_hand, fn_has_hand, cd_has_hand, nd_Scale_2, nd_Ratio_1, nd_Ratio_2, at_Scale_hands, at_Scale_numbers, li_Scale, at_Ratio_top, at_Ratio_bottom, cc_Scale_MOST, gl_MOST_HANDS, gl_MOST_PART, is_Scale_non, is_Scale_bl, is_Scale_int, is_Scale_str, is_Scale_lst, is_Scale_tup, is_Scale_Scale, is_Scale_Ratio, is_bool_non, is_bool_bl, is_bool_int, is_bool_str, is_bool_lst, is_bool_tup, is_bool_Scale, is_bool_Ratio, is_int_non, is_int_bl, is_int_int, is_int_str, is_int_lst, is_int_tup, is_int_Scale, is_int_Ratio, is_str_non, is_str_bl, is_str_int, is_str_str, is_str_lst, is_str_tup, is_str_Scale, is_str_Ratio, is_list_non, is_list_bl, is_list_int, is_list_str, is_list_lst, is_list_tup, is_list_Scale, is_list_Ratio, is_tuple_non, is_tuple_bl, is_tuple_int, is_tuple_str, is_tuple_lst, is_tuple_tup, is_tuple_Scale, is_tuple_Ratio, is_Ratio_non, is_Ratio_bl, is_Ratio_int, is_Ratio_str, is_Ratio_lst, is_Ratio_tup, is_Ratio_Scale, is_Ratio_Ratio, cIsN]
theorem same_int (n : Nat) (i : Int) : callF T (n + 1) 6 [.val (.int i), .lk (.int i)] = .ret (.val (.bl true)) [.un, .un] := by
  rw [callF_at fn_law_same rfl]
  simp only [fd_law_same, c_law_same, List.length_cons, List.length_nil, List.replicate, List.cons_append, List.nil_append]
  have d : decide (i = i) = true := decide_eq_true rfl
  simp only [sz0, sz1, sz2, sz3, sz4, sz5, sz6, sz7, sz8, sz9, sz10, sz11, sz12, sz13, sz14, e_var, e_non, e_bl, e_int, e_str, e_glo, e_bin, e_neg, e_inv, e_nt, e_cmp, e_cmp2, e_and, e_or, e_ite, e_tup, e_lst, e_sub, e_slc, e_att, e_ccon, e_call, e_new, e_isi, e_bi, e_bm, e_mth, e_lso, e_app, e_pop, e_popAt, e_comp, es_nil, es_cons, t_and, t_or, t_nt, t_var, t_cmp, t_cmp2, t_call, t_isi, t_bi, t_bin, t_att, t_mth, t_bl, src_of, src_range1, src_range2, src_enum, src_zip, src_rev, s_expr, s_set, s_hold, s_setsub, s_setatt, s_unpack, s_ite, s_for, s_ret, s_retN, s_pass, s_brk, s_cnt, s_never, ss_nil, ss_cons, b1_ok, b2_ok, bs_ok, bE_ok, bL_ok, bT_ok, bI_ok, sE_ok, sT_ok, sI_ok, seq_nx, seq_rt, fite_t, fite_f, gite_t, gite_f, fnot_e, gexpr_e, gret_e, fcon_e, rdc_v, rdc_o, rdc_b, rd_v, rd_o, rd_i, rd_l, m1_e, op1_e, m2_e, op2_e, mk_t, mk_f, okB_e, m2c_e, fcmp_e, m3_t, m3_f, mc2_e, fcmp2_e, cmp2_e, nt_e, neg_e, tru_bl, tru_int, tru_non, tru1_e, consO_e, rdcs_n, rdcs_c, bi1_e, mbi_e, nxO_e, toVal_v, toVal_o, toVal_b, mval_o, mval_v, toVals_n, toVals_c, tvc_e, mapd_e, gset_e, mset_e, ghold_o, ghold_v, asg_e, masg_u, masg_v, masg_o, gsub_e, fsub_e, gput_e, mput_e, mput2_e, mput3_e, fapp_e, app1_e, mapp_e, mapp2_e, mapp3_e, ownAt_e, mown_o, mown_i, isLst_e, mlst_e, varE_e, mvar_v, mvar_o, mvar_i, mvar_l, frng_e, mrng_e, mrng2_e, fof_e, mof_e, mof2_e, toSrc_v, toSrc_o, toSrc_b, msrc_o, msrc_l, items_l, items_t, ftup_e, flst_e, mtup_e, mlis_e, mtup2_e, fand_e, mand_t, mand_f, ret_v, ret_o, ret_b, mret_o, mret_ln, partR_t, partR_f, callG_e, mcall_e, mcall2_v, mcall2_o, mcall3_e, newG_e, mnew_e, mnew2_e, mnew3_e, give_n, give_c, gvc_e, gvm_e, give_v, mg1_e, give_rv, give_ro, give_rb, mgr_o, mgr_i, mgr_l, give_mo, give_mb, mgm_o, mgm_i, tb_n, tb_0, tb_i, tb_u, mtb_e, mtb2_e, fin_n, fin_r, mfin_e, mou_e, ou_n, ou_i, ou_v, ou_l, gatt_e, matt_e, matt2_e, matt3_e, getI0, getI1, setI0, setI1, omap_s, obind_s, nic_n, nic_i, bAdd, bSub, cLt, cLe, cGt, cGe, cEq, cNe, Bool.not_true, Bool.not_false, List.cons_append, List.nil_append, fn_law, fn_Scale___init, fn_law_digit, cd_law_digit, fn_law_by_amounts, cd_law_by_amounts, fn_law_due_halves, cd_law_due_halves, fn_additive, cd_additive, fn_law_same, cd_law_same, fn_law_push, cd_law_push, fn_law_pushed, cd_law_pushed, fn_law_halves, cd_law_halves, fn_law_adds_up, cd_law_adds_up, fn_idle_hands, cd_idle_hands, fn_law_idle, cd_law_idle, fn_check_hands, cd_check_hands, fn_check_length, cd_check_length, fn_check_opposite, cd_check_opposite, fn_check_rising, cd_check_rising, fn_check_number, cd_check_number, fn_law_amounts, cd_law_amounts, fn_law_fits, cd_law_fits, fn_amounts_of, cd_amounts_of, fn_Ratio___init, fn_rest_mask, cd_rest_mask, fn_with_hand, cd_with_hand, fn_has_hand, cd_has_hand, nd_Scale_2, nd_Ratio_1, nd_Ratio_2, at_Scale_hands, at_Scale_numbers, li_Scale, at_Ratio_top, at_Ratio_bottom, cc_Scale_MOST, gl_MOST_HANDS, gl_MOST_PART, is_Scale_non, is_Scale_bl, is_Scale_int, is_Scale_str, is_Scale_lst, is_Scale_tup, is_Scale_Scale, is_Scale_Ratio, is_bool_non, is_bool_bl, is_bool_int, is_bool_str, is_bool_lst, is_bool_tup, is_bool_Scale, is_bool_Ratio, is_int_non, is_int_bl, is_int_int, is_int_str, is_int_lst, is_int_tup, is_int_Scale, is_int_Ratio, is_str_non, is_str_bl, is_str_int, is_str_str, is_str_lst, is_str_tup, is_str_Scale, is_str_Ratio, is_list_non, is_list_bl, is_list_int, is_list_str, is_list_lst, is_list_tup, is_list_Scale, is_list_Ratio, is_tuple_non, is_tuple_bl, is_tuple_int, is_tuple_str, is_tuple_lst, is_tuple_tup, is_tuple_Scale, is_tuple_Ratio, is_Ratio_non, is_Ratio_bl, is_Ratio_int, is_Ratio_str, is_Ratio_lst, is_Ratio_tup, is_Ratio_Scale, is_Ratio_Ratio, cIsI, decide_true]
theorem sub2_l {xs : List D} {k : Nat} (h : k < xs.length) : sub2 (.lst xs) (.int (k : Int)) = some (false, xs[k]) := by
  show (atI xs _).map _ = _
  rw [atI_nat h, List.getElem?_eq_getElem h]; rfl
theorem sub2_t {xs : List D} {k : Nat} (h : k < xs.length) : sub2 (.tup xs) (.int (k : Int)) = some (false, xs[k]) := by
  show (atI xs _).map _ = _
  rw [atI_nat h, List.getElem?_eq_getElem h]; rfl
theorem all_true {n : Nat} : biD .all [.lst (tab (fun _ => .bl true) n)] = some (false, .bl true) := by
  have := bi_allB (l := List.range n) (q := fun _ => true)
  rw [show (List.range n).all (fun _ => true) = true by simp] at this
  exact this
theorem same_lst (n : Nat) (xs : List D) (hz : xs.length ≤ 1000) (hs : ∀ k (h : k < xs.length), callF T n 6 [.val xs[k], .lk xs[k]] = .ret (.val (.bl true)) [.un, .un]) :
    callF T (n + 1) 6 [.val (.lst xs), .lk (.lst xs)] = .ret (.val (.bl true)) [.un, .un] := by
  have d : decide ((xs.length : Int) = (xs.length : Int)) = true := decide_eq_true rfl
  rw [callF_at fn_law_same rfl]
  simp only [fd_law_same, c_law_same, List.length_cons, List.length_nil, List.replicate, List.cons_append, List.nil_append]
  simp only [sz0, sz1, sz2, sz3, sz4, sz5, sz6, sz7, sz8, sz9, sz10, sz11, sz12, sz13, sz14, e_var, e_non, e_bl, e_int, e_str, e_glo, e_bin, e_neg, e_inv, e_nt, e_cmp, e_cmp2, e_and, e_or, e_ite, e_tup, e_lst, e_sub, e_slc, e_att, e_ccon, e_call, e_new, e_isi, e_bi, e_bm, e_mth, e_lso, e_app, e_pop, e_popAt, e_comp, es_nil, es_cons, t_and, t_or, t_nt, t_var, t_cmp, t_cmp2, t_call, t_isi, t_bi, t_bin, t_att, t_mth, t_bl, src_of, src_range1, src_range2, src_enum, src_zip, src_rev, s_expr, s_set, s_hold, s_setsub, s_setatt, s_unpack, s_ite, s_for, s_ret, s_retN, s_pass, s_brk, s_cnt, s_never, ss_nil, ss_cons, b1_ok, b2_ok, bs_ok, bE_ok, bL_ok, bT_ok, bI_ok, sE_ok, sT_ok, sI_ok, seq_nx, seq_rt, fite_t, fite_f, gite_t, gite_f, fnot_e, gexpr_e, gret_e, fcon_e, rdc_v, rdc_o, rdc_b, rd_v, rd_o, rd_i, rd_l, m1_e, op1_e, m2_e, op2_e, mk_t, mk_f, okB_e, m2c_e, fcmp_e, m3_t, m3_f, mc2_e, fcmp2_e, cmp2_e, nt_e, neg_e, tru_bl, tru_int, tru_non, tru1_e, consO_e, rdcs_n, rdcs_c, bi1_e, mbi_e, nxO_e, toVal_v, toVal_o, toVal_b, mval_o, mval_v, toVals_n, toVals_c, tvc_e, mapd_e, gset_e, mset_e, ghold_o, ghold_v, asg_e, masg_u, masg_v, masg_o, gsub_e, fsub_e, gput_e, mput_e, mput2_e, mput3_e, fapp_e, app1_e, mapp_e, mapp2_e, mapp3_e, ownAt_e, mown_o, mown_i, isLst_e, mlst_e, varE_e, mvar_v, mvar_o, mvar_i, mvar_l, frng_e, mrng_e, mrng2_e, fof_e, mof_e, mof2_e, toSrc_v, toSrc_o, toSrc_b, msrc_o, msrc_l, items_l, items_t, ftup_e, flst_e, mtup_e, mlis_e, mtup2_e, fand_e, mand_t, mand_f, ret_v, ret_o, ret_b, mret_o, mret_ln, partR_t, partR_f, callG_e, mcall_e, mcall2_v, mcall2_o, mcall3_e, newG_e, mnew_e, mnew2_e, mnew3_e, give_n, give_c, gvc_e, gvm_e, give_v, mg1_e, give_rv, give_ro, give_rb, mgr_o, mgr_i, mgr_l, give_mo, give_mb, mgm_o, mgm_i, tb_n, tb_0, tb_i, tb_u, mtb_e, mtb2_e, fin_n, fin_r, mfin_e, mou_e, ou_n, ou_i, ou_v, ou_l, gatt_e, matt_e, matt2_e, matt3_e, getI0, getI1, setI0, setI1, omap_s, obind_s, nic_n, nic_i, bAdd, bSub, cLt, cLe, cGt, cGe, cEq, cNe, Bool.not_true, Bool.not_false, List.cons_append, List.nil_append, fn_law, fn_Scale___init, fn_law_digit, cd_law_digit, fn_law_by_amounts, cd_law_by_amounts, fn_law_due_halves, cd_law_due_halves, fn_additive, cd_additive, fn_law_same, cd_law_same, fn_law_push, cd_law_push, fn_law_pushed, cd_law_pushed, fn_law_halves, cd_law_halves, fn_law_adds_up, cd_law_adds_up, fn_idle_hands, cd_idle_hands, fn_law_idle, cd_law_idle, fn_check_hands, cd_check_hands, fn_check_length, cd_check_length, fn_check_opposite, cd_check_opposite, fn_check_rising, cd_check_rising, fn_check_number, cd_check_number, fn_law_amounts, cd_law_amounts, fn_law_fits, cd_law_fits, fn_amounts_of, cd_amounts_of, fn_Ratio___init, fn_rest_mask, cd_rest_mask, fn_with_hand, cd_with_hand, fn_has_hand, cd_has_hand, nd_Scale_2, nd_Ratio_1, nd_Ratio_2, at_Scale_hands, at_Scale_numbers, li_Scale, at_Ratio_top, at_Ratio_bottom, cc_Scale_MOST, gl_MOST_HANDS, gl_MOST_PART, is_Scale_non, is_Scale_bl, is_Scale_int, is_Scale_str, is_Scale_lst, is_Scale_tup, is_Scale_Scale, is_Scale_Ratio, is_bool_non, is_bool_bl, is_bool_int, is_bool_str, is_bool_lst, is_bool_tup, is_bool_Scale, is_bool_Ratio, is_int_non, is_int_bl, is_int_int, is_int_str, is_int_lst, is_int_tup, is_int_Scale, is_int_Ratio, is_str_non, is_str_bl, is_str_int, is_str_str, is_str_lst, is_str_tup, is_str_Scale, is_str_Ratio, is_list_non, is_list_bl, is_list_int, is_list_str, is_list_lst, is_list_tup, is_list_Scale, is_list_Ratio, is_tuple_non, is_tuple_bl, is_tuple_int, is_tuple_str, is_tuple_lst, is_tuple_tup, is_tuple_Scale, is_tuple_Ratio, is_Ratio_non, is_Ratio_bl, is_Ratio_int, is_Ratio_str, is_Ratio_lst, is_Ratio_tup, is_Ratio_Scale, is_Ratio_Ratio, cIsL, cNeB, bne_self_eq_false, bi_len, decide_true, rngOk_of (show (0 : Int) ≤ (xs.length : Int) by omega) (by omega), Int.toNat_natCast]
  rw [cmpA (fun _ => .bl true) rfl FreeS.un hz fun k hk => by
    simp only [sz0, sz1, sz2, sz3, sz4, sz5, sz6, sz7, sz8, sz9, sz10, sz11, sz12, sz13, sz14, e_var, e_non, e_bl, e_int, e_str, e_glo, e_bin, e_neg, e_inv, e_nt, e_cmp, e_cmp2, e_and, e_or, e_ite, e_tup, e_lst, e_sub, e_slc, e_att, e_ccon, e_call, e_new, e_isi, e_bi, e_bm, e_mth, e_lso, e_app, e_pop, e_popAt, e_comp, es_nil, es_cons, t_and, t_or, t_nt, t_var, t_cmp, t_cmp2, t_call, t_isi, t_bi, t_bin, t_att, t_mth, t_bl, src_of, src_range1, src_range2, src_enum, src_zip, src_rev, s_expr, s_set, s_hold, s_setsub, s_setatt, s_unpack, s_ite, s_for, s_ret, s_retN, s_pass, s_brk, s_cnt, s_never, ss_nil, ss_cons, b1_ok, b2_ok, bs_ok, bE_ok, bL_ok, bT_ok, bI_ok, sE_ok, sT_ok, sI_ok, seq_nx, seq_rt, fite_t, fite_f, gite_t, gite_f, fnot_e, gexpr_e, gret_e, fcon_e, rdc_v, rdc_o, rdc_b, rd_v, rd_o, rd_i, rd_l, m1_e, op1_e, m2_e, op2_e, mk_t, mk_f, okB_e, m2c_e, fcmp_e, m3_t, m3_f, mc2_e, fcmp2_e, cmp2_e, nt_e, neg_e, tru_bl, tru_int, tru_non, tru1_e, consO_e, rdcs_n, rdcs_c, bi1_e, mbi_e, nxO_e, toVal_v, toVal_o, toVal_b, mval_o, mval_v, toVals_n, toVals_c, tvc_e, mapd_e, gset_e, mset_e, ghold_o, ghold_v, asg_e, masg_u, masg_v, masg_o, gsub_e, fsub_e, gput_e, mput_e, mput2_e, mput3_e, fapp_e, app1_e, mapp_e, mapp2_e, mapp3_e, ownAt_e, mown_o, mown_i, isLst_e, mlst_e, varE_e, mvar_v, mvar_o, mvar_i, mvar_l, frng_e, mrng_e, mrng2_e, fof_e, mof_e, mof2_e, toSrc_v, toSrc_o, toSrc_b, msrc_o, msrc_l, items_l, items_t, ftup_e, flst_e, mtup_e, mlis_e, mtup2_e, fand_e, mand_t, mand_f, ret_v, ret_o, ret_b, mret_o, mret_ln, partR_t, partR_f, callG_e, mcall_e, mcall2_v, mcall2_o, mcall3_e, newG_e, mnew_e, mnew2_e, mnew3_e, give_n, give_c, gvc_e, gvm_e, give_v, mg1_e, give_rv, give_ro, give_rb, mgr_o, mgr_i, mgr_l, give_mo, give_mb, mgm_o, mgm_i, tb_n, tb_0, tb_i, tb_u, mtb_e, mtb2_e, fin_n, fin_r, mfin_e, mou_e, ou_n, ou_i, ou_v, ou_l, gatt_e, matt_e, matt2_e, matt3_e, getI0, getI1, setI0, setI1, omap_s, obind_s, nic_n, nic_i, bAdd, bSub, cLt, cLe, cGt, cGe, cEq, cNe, Bool.not_true, Bool.not_false, List.cons_append, List.nil_append, fn_law, fn_Scale___init, fn_law_digit, cd_law_digit, fn_law_by_amounts, cd_law_by_amounts, fn_law_due_halves, cd_law_due_halves, fn_additive, cd_additive, fn_law_same, cd_law_same, fn_law_push, cd_law_push, fn_law_pushed, cd_law_pushed, fn_law_halves, cd_law_halves, fn_law_adds_up, cd_law_adds_up, fn_idle_hands, cd_idle_hands, fn_law_idle, cd_law_idle, fn_check_hands, cd_check_hands, fn_check_length, cd_check_length, fn_check_opposite, cd_check_opposite, fn_check_rising, cd_check_rising, fn_check_number, cd_check_number, fn_law_amounts, cd_law_amounts, fn_law_fits, cd_law_fits, fn_amounts_of, cd_amounts_of, fn_Ratio___init, fn_rest_mask, cd_rest_mask, fn_with_hand, cd_with_hand, fn_has_hand, cd_has_hand, nd_Scale_2, nd_Ratio_1, nd_Ratio_2, at_Scale_hands, at_Scale_numbers, li_Scale, at_Ratio_top, at_Ratio_bottom, cc_Scale_MOST, gl_MOST_HANDS, gl_MOST_PART, is_Scale_non, is_Scale_bl, is_Scale_int, is_Scale_str, is_Scale_lst, is_Scale_tup, is_Scale_Scale, is_Scale_Ratio, is_bool_non, is_bool_bl, is_bool_int, is_bool_str, is_bool_lst, is_bool_tup, is_bool_Scale, is_bool_Ratio, is_int_non, is_int_bl, is_int_int, is_int_str, is_int_lst, is_int_tup, is_int_Scale, is_int_Ratio, is_str_non, is_str_bl, is_str_int, is_str_str, is_str_lst, is_str_tup, is_str_Scale, is_str_Ratio, is_list_non, is_list_bl, is_list_int, is_list_str, is_list_lst, is_list_tup, is_list_Scale, is_list_Ratio, is_tuple_non, is_tuple_bl, is_tuple_int, is_tuple_str, is_tuple_lst, is_tuple_tup, is_tuple_Scale, is_tuple_Ratio, is_Ratio_non, is_Ratio_bl, is_Ratio_int, is_Ratio_str, is_Ratio_lst, is_Ratio_tup, is_Ratio_Scale, is_Ratio_Ratio, sub2_l hk, hs k hk]]
  simp only [sz0, sz1, sz2, sz3, sz4, sz5, sz6, sz7, sz8, sz9, sz10, sz11, sz12, sz13, sz14, e_var, e_non, e_bl, e_int, e_str, e_glo, e_bin, e_neg, e_inv, e_nt, e_cmp, e_cmp2, e_and, e_or, e_ite, e_tup, e_lst, e_sub, e_slc, e_att, e_ccon, e_call, e_new, e_isi, e_bi, e_bm, e_mth, e_lso, e_app, e_pop, e_popAt, e_comp, es_nil, es_cons, t_and, t_or, t_nt, t_var, t_cmp, t_cmp2, t_call, t_isi, t_bi, t_bin, t_att, t_mth, t_bl, src_of, src_range1, src_range2, src_enum, src_zip, src_rev, s_expr, s_set, s_hold, s_setsub, s_setatt, s_unpack, s_ite, s_for, s_ret, s_retN, s_pass, s_brk, s_cnt, s_never, ss_nil, ss_cons, b1_ok, b2_ok, bs_ok, bE_ok, bL_ok, bT_ok, bI_ok, sE_ok, sT_ok, sI_ok, seq_nx, seq_rt, fite_t, fite_f, gite_t, gite_f, fnot_e, gexpr_e, gret_e, fcon_e, rdc_v, rdc_o, rdc_b, rd_v, rd_o, rd_i, rd_l, m1_e, op1_e, m2_e, op2_e, mk_t, mk_f, okB_e, m2c_e, fcmp_e, m3_t, m3_f, mc2_e, fcmp2_e, cmp2_e, nt_e, neg_e, tru_bl, tru_int, tru_non, tru1_e, consO_e, rdcs_n, rdcs_c, bi1_e, mbi_e, nxO_e, toVal_v, toVal_o, toVal_b, mval_o, mval_v, toVals_n, toVals_c, tvc_e, mapd_e, gset_e, mset_e, ghold_o, ghold_v, asg_e, masg_u, masg_v, masg_o, gsub_e, fsub_e, gput_e, mput_e, mput2_e, mput3_e, fapp_e, app1_e, mapp_e, mapp2_e, mapp3_e, ownAt_e, mown_o, mown_i, isLst_e, mlst_e, varE_e, mvar_v, mvar_o, mvar_i, mvar_l, frng_e, mrng_e, mrng2_e, fof_e, mof_e, mof2_e, toSrc_v, toSrc_o, toSrc_b, msrc_o, msrc_l, items_l, items_t, ftup_e, flst_e, mtup_e, mlis_e, mtup2_e, fand_e, mand_t, mand_f, ret_v, ret_o, ret_b, mret_o, mret_ln, partR_t, partR_f, callG_e, mcall_e, mcall2_v, mcall2_o, mcall3_e, newG_e, mnew_e, mnew2_e, mnew3_e, give_n, give_c, gvc_e, gvm_e, give_v, mg1_e, give_rv, give_ro, give_rb, mgr_o, mgr_i, mgr_l, give_mo, give_mb, mgm_o, mgm_i, tb_n, tb_0, tb_i, tb_u, mtb_e, mtb2_e, fin_n, fin_r, mfin_e, mou_e, ou_n, ou_i, ou_v, ou_l, gatt_e, matt_e, matt2_e, matt3_e, getI0, getI1, setI0, setI1, omap_s, obind_s, nic_n, nic_i, bAdd, bSub, cLt, cLe, cGt, cGe, cEq, cNe, Bool.not_true, Bool.not_false, List.cons_append, List.nil_append, all_true]
theorem same_tup (n : Nat) (xs : List D) (hz : xs.length ≤ 1000) (hs : ∀ k (h : k < xs.length), callF T n 6 [.val xs[k], .lk xs[k]] = .ret (.val (.bl true)) [.un, .un]) :
    callF T (n + 1) 6 [.val (.tup xs), .lk (.tup xs)] = .ret (.val (.bl true)) [.un, .un] := by
  have d : decide ((xs.length : Int) = (xs.length : Int)) = true := decide_eq_true rfl
  rw [callF_at fn_law_same rfl]
  simp only [fd_law_same, c_law_same, List.length_cons, List.length_nil, List.replicate, List.cons_append, List.nil_append]
  simp only [sz0, sz1, sz2, sz3, sz4, sz5, sz6, sz7, sz8, sz9, sz10, sz11, sz12, sz13, sz14, e_var, e_non, e_bl, e_int, e_str, e_glo, e_bin, e_neg, e_inv, e_nt, e_cmp, e_cmp2, e_and, e_or, e_ite, e_tup, e_lst, e_sub, e_slc, e_att, e_ccon, e_call, e_new, e_isi, e_bi, e_bm, e_mth, e_lso, e_app, e_pop, e_popAt, e_comp, es_nil, es_cons, t_and, t_or, t_nt, t_var, t_cmp, t_cmp2, t_call, t_isi, t_bi, t_bin, t_att, t_mth, t_bl, src_of, src_range1, src_range2, src_enum, src_zip, src_rev, s_expr, s_set, s_hold, s_setsub, s_setatt, s_unpack, s_ite, s_for, s_ret, s_retN, s_pass, s_brk, s_cnt, s_never, ss_nil, ss_cons, b1_ok, b2_ok, bs_ok, bE_ok, bL_ok, bT_ok, bI_ok, sE_ok, sT_ok, sI_ok, seq_nx, seq_rt, fite_t, fite_f, gite_t, gite_f, fnot_e, gexpr_e, gret_e, fcon_e, rdc_v, rdc_o, rdc_b, rd_v, rd_o, rd_i, rd_l, m1_e, op1_e, m2_e, op2_e, mk_t, mk_f, okB_e, m2c_e, fcmp_e, m3_t, m3_f, mc2_e, fcmp2_e, cmp2_e, nt_e, neg_e, tru_bl, tru_int, tru_non, tru1_e, consO_e, rdcs_n, rdcs_c, bi1_e, mbi_e, nxO_e, toVal_v, toVal_o, toVal_b, mval_o, mval_v, toVals_n, toVals_c, tvc_e, mapd_e, gset_e, mset_e, ghold_o, ghold_v, asg_e, masg_u, masg_v, masg_o, gsub_e, fsub_e, gput_e, mput_e, mput2_e, mput3_e, fapp_e, app1_e, mapp_e, mapp2_e, mapp3_e, ownAt_e, mown_o, mown_i, isLst_e, mlst_e, varE_e, mvar_v, mvar_o, mvar_i, mvar_l, frng_e, mrng_e, mrng2_e, fof_e, mof_e, mof2_e, toSrc_v, toSrc_o, toSrc_b, msrc_o, msrc_l, items_l, items_t, ftup_e, flst_e, mtup_e, mlis_e, mtup2_e, fand_e, mand_t, mand_f, ret_v, ret_o, ret_b, mret_o, mret_ln, partR_t, partR_f, callG_e, mcall_e, mcall2_v, mcall2_o, mcall3_e, newG_e, mnew_e, mnew2_e, mnew3_e, give_n, give_c, gvc_e, gvm_e, give_v, mg1_e, give_rv, give_ro, give_rb, mgr_o, mgr_i, mgr_l, give_mo, give_mb, mgm_o, mgm_i, tb_n, tb_0, tb_i, tb_u, mtb_e, mtb2_e, fin_n, fin_r, mfin_e, mou_e, ou_n, ou_i, ou_v, ou_l, gatt_e, matt_e, matt2_e, matt3_e, getI0, getI1, setI0, setI1, omap_s, obind_s, nic_n, nic_i, bAdd, bSub, cLt, cLe, cGt, cGe, cEq, cNe, Bool.not_true, Bool.not_false, List.cons_append, List.nil_append, fn_law, fn_Scale___init, fn_law_digit, cd_law_digit, fn_law_by_amounts, cd_law_by_amounts, fn_law_due_halves, cd_law_due_halves, fn_additive, cd_additive, fn_law_same, cd_law_same, fn_law_push, cd_law_push, fn_law_pushed, cd_law_pushed, fn_law_halves, cd_law_halves, fn_law_adds_up, cd_law_adds_up, fn_idle_hands, cd_idle_hands, fn_law_idle, cd_law_idle, fn_check_hands, cd_check_hands, fn_check_length, cd_check_length, fn_check_opposite, cd_check_opposite, fn_check_rising, cd_check_rising, fn_check_number, cd_check_number, fn_law_amounts, cd_law_amounts, fn_law_fits, cd_law_fits, fn_amounts_of, cd_amounts_of, fn_Ratio___init, fn_rest_mask, cd_rest_mask, fn_with_hand, cd_with_hand, fn_has_hand, cd_has_hand, nd_Scale_2, nd_Ratio_1, nd_Ratio_2, at_Scale_hands, at_Scale_numbers, li_Scale, at_Ratio_top, at_Ratio_bottom, cc_Scale_MOST, gl_MOST_HANDS, gl_MOST_PART, is_Scale_non, is_Scale_bl, is_Scale_int, is_Scale_str, is_Scale_lst, is_Scale_tup, is_Scale_Scale, is_Scale_Ratio, is_bool_non, is_bool_bl, is_bool_int, is_bool_str, is_bool_lst, is_bool_tup, is_bool_Scale, is_bool_Ratio, is_int_non, is_int_bl, is_int_int, is_int_str, is_int_lst, is_int_tup, is_int_Scale, is_int_Ratio, is_str_non, is_str_bl, is_str_int, is_str_str, is_str_lst, is_str_tup, is_str_Scale, is_str_Ratio, is_list_non, is_list_bl, is_list_int, is_list_str, is_list_lst, is_list_tup, is_list_Scale, is_list_Ratio, is_tuple_non, is_tuple_bl, is_tuple_int, is_tuple_str, is_tuple_lst, is_tuple_tup, is_tuple_Scale, is_tuple_Ratio, is_Ratio_non, is_Ratio_bl, is_Ratio_int, is_Ratio_str, is_Ratio_lst, is_Ratio_tup, is_Ratio_Scale, is_Ratio_Ratio, cIsT, cNeB, bne_self_eq_false, bi_lenU, decide_true, rngOk_of (show (0 : Int) ≤ (xs.length : Int) by omega) (by omega), Int.toNat_natCast]
  rw [cmpA (fun _ => .bl true) rfl FreeS.un hz fun k hk => by
    simp only [sz0, sz1, sz2, sz3, sz4, sz5, sz6, sz7, sz8, sz9, sz10, sz11, sz12, sz13, sz14, e_var, e_non, e_bl, e_int, e_str, e_glo, e_bin, e_neg, e_inv, e_nt, e_cmp, e_cmp2, e_and, e_or, e_ite, e_tup, e_lst, e_sub, e_slc, e_att, e_ccon, e_call, e_new, e_isi, e_bi, e_bm, e_mth, e_lso, e_app, e_pop, e_popAt, e_comp, es_nil, es_cons, t_and, t_or, t_nt, t_var, t_cmp, t_cmp2, t_call, t_isi, t_bi, t_bin, t_att, t_mth, t_bl, src_of, src_range1, src_range2, src_enum, src_zip, src_rev, s_expr, s_set, s_hold, s_setsub, s_setatt, s_unpack, s_ite, s_for, s_ret, s_retN, s_pass, s_brk, s_cnt, s_never, ss_nil, ss_cons, b1_ok, b2_ok, bs_ok, bE_ok, bL_ok, bT_ok, bI_ok, sE_ok, sT_ok, sI_ok, seq_nx, seq_rt, fite_t, fite_f, gite_t, gite_f, fnot_e, gexpr_e, gret_e, fcon_e, rdc_v, rdc_o, rdc_b, rd_v, rd_o, rd_i, rd_l, m1_e, op1_e, m2_e, op2_e, mk_t, mk_f, okB_e, m2c_e, fcmp_e, m3_t, m3_f, mc2_e, fcmp2_e, cmp2_e, nt_e, neg_e, tru_bl, tru_int, tru_non, tru1_e, consO_e, rdcs_n, rdcs_c, bi1_e, mbi_e, nxO_e, toVal_v, toVal_o, toVal_b, mval_o, mval_v, toVals_n, toVals_c, tvc_e, mapd_e, gset_e, mset_e, ghold_o, ghold_v, asg_e, masg_u, masg_v, masg_o, gsub_e, fsub_e, gput_e, mput_e, mput2_e, mput3_e, fapp_e, app1_e, mapp_e, mapp2_e, mapp3_e, ownAt_e, mown_o, mown_i, isLst_e, mlst_e, varE_e, mvar_v, mvar_o, mvar_i, mvar_l, frng_e, mrng_e, mrng2_e, fof_e, mof_e, mof2_e, toSrc_v, toSrc_o, toSrc_b, msrc_o, msrc_l, items_l, items_t, ftup_e, flst_e, mtup_e, mlis_e, mtup2_e, fand_e, mand_t, mand_f, ret_v, ret_o, ret_b, mret_o, mret_ln, partR_t, partR_f, callG_e, mcall_e, mcall2_v, mcall2_o, mcall3_e, newG_e, mnew_e, mnew2_e, mnew3_e, give_n, give_c, gvc_e, gvm_e, give_v, mg1_e, give_rv, give_ro, give_rb, mgr_o, mgr_i, mgr_l, give_mo, give_mb, mgm_o, mgm_i, tb_n, tb_0, tb_i, tb_u, mtb_e, mtb2_e, fin_n, fin_r, mfin_e, mou_e, ou_n, ou_i, ou_v, ou_l, gatt_e, matt_e, matt2_e, matt3_e, getI0, getI1, setI0, setI1, omap_s, obind_s, nic_n, nic_i, bAdd, bSub, cLt, cLe, cGt, cGe, cEq, cNe, Bool.not_true, Bool.not_false, List.cons_append, List.nil_append, fn_law, fn_Scale___init, fn_law_digit, cd_law_digit, fn_law_by_amounts, cd_law_by_amounts, fn_law_due_halves, cd_law_due_halves, fn_additive, cd_additive, fn_law_same, cd_law_same, fn_law_push, cd_law_push, fn_law_pushed, cd_law_pushed, fn_law_halves, cd_law_halves, fn_law_adds_up, cd_law_adds_up, fn_idle_hands, cd_idle_hands, fn_law_idle, cd_law_idle, fn_check_hands, cd_check_hands, fn_check_length, cd_check_length, fn_check_opposite, cd_check_opposite, fn_check_rising, cd_check_rising, fn_check_number, cd_check_number, fn_law_amounts, cd_law_amounts, fn_law_fits, cd_law_fits, fn_amounts_of, cd_amounts_of, fn_Ratio___init, fn_rest_mask, cd_rest_mask, fn_with_hand, cd_with_hand, fn_has_hand, cd_has_hand, nd_Scale_2, nd_Ratio_1, nd_Ratio_2, at_Scale_hands, at_Scale_numbers, li_Scale, at_Ratio_top, at_Ratio_bottom, cc_Scale_MOST, gl_MOST_HANDS, gl_MOST_PART, is_Scale_non, is_Scale_bl, is_Scale_int, is_Scale_str, is_Scale_lst, is_Scale_tup, is_Scale_Scale, is_Scale_Ratio, is_bool_non, is_bool_bl, is_bool_int, is_bool_str, is_bool_lst, is_bool_tup, is_bool_Scale, is_bool_Ratio, is_int_non, is_int_bl, is_int_int, is_int_str, is_int_lst, is_int_tup, is_int_Scale, is_int_Ratio, is_str_non, is_str_bl, is_str_int, is_str_str, is_str_lst, is_str_tup, is_str_Scale, is_str_Ratio, is_list_non, is_list_bl, is_list_int, is_list_str, is_list_lst, is_list_tup, is_list_Scale, is_list_Ratio, is_tuple_non, is_tuple_bl, is_tuple_int, is_tuple_str, is_tuple_lst, is_tuple_tup, is_tuple_Scale, is_tuple_Ratio, is_Ratio_non, is_Ratio_bl, is_Ratio_int, is_Ratio_str, is_Ratio_lst, is_Ratio_tup, is_Ratio_Scale, is_Ratio_Ratio, sub2_t hk, hs k hk]]
  simp only [sz0, sz1, sz2, sz3, sz4, sz5, sz6, sz7, sz8, sz9, sz10, sz11, sz12, sz13, sz14, e_var, e_non, e_bl, e_int, e_str, e_glo, e_bin, e_neg, e_inv, e_nt, e_cmp, e_cmp2, e_and, e_or, e_ite, e_tup, e_lst, e_sub, e_slc, e_att, e_ccon, e_call, e_new, e_isi, e_bi, e_bm, e_mth, e_lso, e_app, e_pop, e_popAt, e_comp, es_nil, es_cons, t_and, t_or, t_nt, t_var, t_cmp, t_cmp2, t_call, t_isi, t_bi, t_bin, t_att, t_mth, t_bl, src_of, src_range1, src_range2, src_enum, src_zip, src_rev, s_expr, s_set, s_hold, s_setsub, s_setatt, s_unpack, s_ite, s_for, s_ret, s_retN, s_pass, s_brk, s_cnt, s_never, ss_nil, ss_cons, b1_ok, b2_ok, bs_ok, bE_ok, bL_ok, bT_ok, bI_ok, sE_ok, sT_ok, sI_ok, seq_nx, seq_rt, fite_t, fite_f, gite_t, gite_f, fnot_e, gexpr_e, gret_e, fcon_e, rdc_v, rdc_o, rdc_b, rd_v, rd_o, rd_i, rd_l, m1_e, op1_e, m2_e, op2_e, mk_t, mk_f, okB_e, m2c_e, fcmp_e, m3_t, m3_f, mc2_e, fcmp2_e, cmp2_e, nt_e, neg_e, tru_bl, tru_int, tru_non, tru1_e, consO_e, rdcs_n, rdcs_c, bi1_e, mbi_e, nxO_e, toVal_v, toVal_o, toVal_b, mval_o, mval_v, toVals_n, toVals_c, tvc_e, mapd_e, gset_e, mset_e, ghold_o, ghold_v, asg_e, masg_u, masg_v, masg_o, gsub_e, fsub_e, gput_e, mput_e, mput2_e, mput3_e, fapp_e, app1_e, mapp_e, mapp2_e, mapp3_e, ownAt_e, mown_o, mown_i, isLst_e, mlst_e, varE_e, mvar_v, mvar_o, mvar_i, mvar_l, frng_e, mrng_e, mrng2_e, fof_e, mof_e, mof2_e, toSrc_v, toSrc_o, toSrc_b, msrc_o, msrc_l, items_l, items_t, ftup_e, flst_e, mtup_e, mlis_e, mtup2_e, fand_e, mand_t, mand_f, ret_v, ret_o, ret_b, mret_o, mret_ln, partR_t, partR_f, callG_e, mcall_e, mcall2_v, mcall2_o, mcall3_e, newG_e, mnew_e, mnew2_e, mnew3_e, give_n, give_c, gvc_e, gvm_e, give_v, mg1_e, give_rv, give_ro, give_rb, mgr_o, mgr_i, mgr_l, give_mo, give_mb, mgm_o, mgm_i, tb_n, tb_0, tb_i, tb_u, mtb_e, mtb2_e, fin_n, fin_r, mfin_e, mou_e, ou_n, ou_i, ou_v, ou_l, gatt_e, matt_e, matt2_e, matt3_e, getI0, getI1, setI0, setI1, omap_s, obind_s, nic_n, nic_i, bAdd, bSub, cLt, cLe, cGt, cGe, cEq, cNe, Bool.not_true, Bool.not_false, List.cons_append, List.nil_append, all_true]
end Wf.L10

namespace Wf.L10
open PySem PySem.Spec PyProof.Rows L2 Wf
def st0 : Stm := .set 1 (.comp (.bi .int (.cons (.var 11) (.nil))) (.name 11) (.of (.slc (.var 0) (.non) (.int 63))) (.bl true))
def st1 : Stm := .hold 2 (.lst (.cons (.int 0) (.cons (.int 0) (.nil))))
def st2 : Stm := .set 3 (.sub (.lst (.cons (.int 3) (.cons (.int 2) (.cons (.int 4) (.cons (.int 1) (.cons (.int 5) (.cons (.int 3) (.cons (.int 2) (.cons (.int 4) (.cons (.int 3) (.cons (.int 2) (.cons (.int 6) (.cons (.int 7) (.nil)))))))))))))) (.call 2 (.cons (.var 1) (.cons (.var 2) (.cons (.int 12) (.nil))))))
def st3 : Stm := .set 4 (.call 2 (.cons (.var 1) (.cons (.var 2) (.cons (.int 3) (.nil)))))
def st4 : Stm := .hold 5 (.call 3 (.cons (.var 1) (.cons (.var 2) (.cons (.var 3) (.nil)))))
def st5 : Stm := .ite (.cmp .Eq (.var 4) (.int 1)) (.cons (.set 9 (.bin .Add (.int 1) (.call 2 (.cons (.var 1) (.cons (.var 2) (.cons (.bin .Sub (.bin .LShift (.int 1) (.var 3)) (.int 1)) (.nil))))))) (.cons (.set 10 (.bin .Add (.bin .Add (.sub (.var 5) (.var 9)) (.int 1)) (.call 2 (.cons (.var 1) (.cons (.var 2) (.cons (.int 3) (.nil))))))) (.cons (.expr (.call 7 (.cons (.var 5) (.cons (.var 9) (.cons (.bi .min (.cons (.bin .Pow (.int 10) (.int 9)) (.cons (.var 10) (.nil)))) (.nil)))))) (.nil)))) (.nil)
def st6 : Stm := .ite (.cmp .Eq (.var 4) (.int 2)) (.cons (.hold 5 (.call 8 (.cons (.var 1) (.cons (.var 2) (.cons (.var 3) (.cons (.int 2) (.nil))))))) (.nil)) (.nil)
def st7 : Stm := .set 6 (.new 0 (.cons (.var 3) (.cons (.bi .list (.cons (.var 5) (.nil))) (.nil))))
def st8 : Stm := .set 7 (.call 4 (.cons (.var 3) (.cons (.var 5) (.nil))))
def st9 : Stm := .hold 8 (.call 5 (.cons (.var 6) (.nil)))
def st10 : Stm := .ite (.nt (.call 6 (.cons (.call 9 (.cons (.var 8) (.nil))) (.cons (.var 7) (.nil))))) (.cons (.ret (.bl false)) (.nil)) (.nil)
def st11 : Stm := .ite (.cmp .IsNot (.var 7) (.non)) (.cons (.ite (.nt (.call 10 (.cons (.var 3) (.cons (.var 5) (.cons (.var 7) (.nil)))))) (.cons (.ret (.bl false)) (.nil)) (.nil)) (.cons (.expr (.app 8 (.int 5))) (.cons (.setsub 8 (.int 0) (.int 7)) (.cons (.ite (.nt (.call 6 (.cons (.call 9 (.cons (.call 5 (.cons (.var 6) (.nil))) (.nil))) (.cons (.var 7) (.nil))))) (.cons (.ret (.bl false)) (.nil)) (.nil)) (.nil))))) (.nil)
def st12 : Stm := .ite (.nt (.call 6 (.cons (.call 11 (.cons (.var 6) (.nil))) (.cons (.call 12 (.cons (.var 3) (.cons (.var 5) (.nil)))) (.nil))))) (.cons (.ret (.bl false)) (.nil)) (.nil)
def st13 : Stm := .ite (.nt (.call 6 (.cons (.call 11 (.cons (.var 6) (.nil))) (.cons (.call 12 (.cons (.var 3) (.cons (.var 5) (.nil)))) (.nil))))) (.cons (.ret (.bl false)) (.nil)) (.nil)
def st14 : Stm := .ite (.or (.nt (.isi (.var 6) (.cls 0))) (.nt (.call 6 (.cons (.att (.var 6) 1) (.cons (.var 3) (.nil)))))) (.cons (.ret (.bl false)) (.nil)) (.nil)
def st15 : Stm := .ret (.call 6 (.cons (.lso (.var 6)) (.cons (.var 5) (.nil))))
def c7 : Stms := .cons st7 (.cons st8 (.cons st9 (.cons st10 (.cons st11 (.cons st12 (.cons st13 (.cons st14 (.cons st15 (.nil)))))))))
theorem c_law_eq : c_law = .cons st0 (.cons st1 (.cons st2 (.cons st3 (.cons st4 (.cons st5 (.cons st6 (c7))))))) := rfl
theorem slc_e {ns : List Int} : slcD none (some 63) (.scr ns) = some (true, .lst ((cutI ns none (some 63)).map D.int)) := id rfl
theorem intP_e {i : Int} {ρ : Env} : intP (.val (.int i)) ρ = .ok (some i) ρ := id rfl
def fslc2 (u h : Option Int) (r : Rv) (ρ : Env) : Out Rv := op1 (slcD u h) r ρ
def fslcB (c : Bool) (l : Env → Out Rv) (r : Rv) (o : Out (Option Int)) : Out Rv := o.bind fun u ρ => (partR c (l ρ) ρ).bind fun h ρ => op1 (slcD u h) r ρ
def fslcC (u : Option Int) (r : Rv) (o : Out (Option Int)) : Out Rv := o.bind fun h ρ => op1 (slcD u h) r ρ
theorem fslc_e {b c : Bool} {k l : Env → Out Rv} {r : Rv} {ρ : Env} : fslc b k c l r ρ = fslcB c l r (partR b (k ρ) ρ) := id rfl
theorem fslcB_e {c : Bool} {l : Env → Out Rv} {r : Rv} {u : Option Int} {ρ : Env} : fslcB c l r (.ok u ρ) = fslcC u r (partR c (l ρ) ρ) := id rfl
theorem fslcC_e {r : Rv} {u h : Option Int} {ρ : Env} : fslcC u r (.ok h ρ) = op1 (slcD u h) r ρ := id rfl
/-- a comprehension that hands the ints on -/
theorem cmpId {T : Tab} {cl : Cl} {e : Ex} {i : Nat} {s : Slot} {ρ : Env} {l : List Int} (h : ρ[i]? = some s) (hs : FreeS s) (hz : l.length ≤ 1000)
    (step : ∀ z : Int, evalE T cl e (ρ.set i (.val (.int z))) = .ok (.val (.int z)) (ρ.set i (.val (.int z)))) :
    cmpB T cl e (.name i) (.bl true) (l.map D.int) ρ = .ok (.own (.lst (l.map D.int))) ρ := by
  rw [cmp1 (fun _ => true) id h hs (by rw [List.length_map]; exact Nat.le_of_lt (sz_small hz)) fun x hx => ?_]
  · rw [show (l.map D.int).filter (fun _ => true) = l.map D.int from List.filter_eq_self.mpr (by simp), List.map_id]
  · obtain ⟨z, _, rfl⟩ := List.mem_map.mp hx
    exact ⟨by rw [t_bl], fun _ => step z⟩
def hands : List Int := [3, 2, 4, 1, 5, 3, 2, 4, 3, 2, 6, 7]
theorem hands_ok {r : Nat} (hr : r < 12) : ∃ h : Nat, hands[r]? = some (h : Int) ∧ 1 ≤ h ∧ h ≤ 7 := by
  rcases r with _ | _ | _ | _ | _ | _ | _ | _ | _ | _ | _ | _ | r
  all_goals first | omega | exact ⟨1, rfl, by decide⟩ | exact ⟨2, rfl, by decide⟩ | exact ⟨3, rfl, by decide⟩ | exact ⟨4, rfl, by decide⟩ | exact ⟨5, rfl, by decide⟩ | exact ⟨6, rfl, by decide⟩ | exact ⟨7, rfl, by decide⟩
theorem cutI_len {ns : List Int} (h : ns.length ≤ 63) : (cutI ns none (some 63)).length ≤ 1000 := by
  unfold cutI
  rw [List.length_take, List.length_drop]
  omega
theorem bi_min {i j : Int} : biD .min [.int i, .int j] = some (false, .int (if j < i then j else i)) := id rfl
theorem bi_list {ds : List D} : biD .list [.lst ds] = some (true, .lst ds) := id rfl
/-- the first part: the numbers of the scale -/
theorem start_run (n : Nat) (ns : List Int) (hn : ns.length ≤ 63) : ∃ (cs : List Int) (i : Nat) (b : Int) (h : Nat) (g : Nat → Int) (x4 s9 s10 : Slot), 1 ≤ h ∧ h ≤ 7 ∧ Nums h g (10 ^ 9) ∧ FreeS s9 ∧ FreeS s10 ∧
    evalSs T (callF T (n + 4)) c_law [.val (.scr ns), .un, .un, .un, .un, .un, .un, .un, .un, .un, .un, .un] =
      evalSs T (callF T (n + 4)) c7 [.val (.scr ns), .val (cellsD cs), .own (.lst [.int i, .int b]), .val (.int (h : Int)), x4, .own (.lst (tabI g (2 ^ h))), .un, .un, .un, s9, s10, .un] := by
  rw [c_law_eq]
  simp only [st0, st1, sz0, sz1, sz2, sz3, sz4, sz5, sz6, sz7, sz8, sz9, sz10, sz11, sz12, sz13, sz14, e_var, e_non, e_bl, e_int, e_str, e_glo, e_bin, e_neg, e_inv, e_nt, e_cmp, e_cmp2, e_and, e_or, e_ite, e_tup, e_lst, e_sub, e_slc, e_att, e_ccon, e_call, e_new, e_isi, e_bi, e_bm, e_mth, e_lso, e_app, e_pop, e_popAt, e_comp, es_nil, es_cons, t_and, t_or, t_nt, t_var, t_cmp, t_cmp2, t_call, t_isi, t_bi, t_bin, t_att, t_mth, t_bl, src_of, src_range1, src_range2, src_enum, src_zip, src_rev, s_expr, s_set, s_hold, s_setsub, s_setatt, s_unpack, s_ite, s_for, s_ret, s_retN, s_pass, s_brk, s_cnt, s_never, ss_nil, ss_cons, b1_ok, b2_ok, bs_ok, bE_ok, bL_ok, bT_ok, bI_ok, sE_ok, sT_ok, sI_ok, seq_nx, seq_rt, fite_t, fite_f, gite_t, gite_f, fnot_e, gexpr_e, gret_e, fcon_e, rdc_v, rdc_o, rdc_b, rd_v, rd_o, rd_i, rd_l, m1_e, op1_e, m2_e, op2_e, mk_t, mk_f, okB_e, m2c_e, fcmp_e, m3_t, m3_f, mc2_e, fcmp2_e, cmp2_e, nt_e, neg_e, tru_bl, tru_int, tru_non, tru1_e, consO_e, rdcs_n, rdcs_c, bi1_e, mbi_e, nxO_e, toVal_v, toVal_o, toVal_b, mval_o, mval_v, toVals_n, toVals_c, tvc_e, mapd_e, gset_e, mset_e, ghold_o, ghold_v, asg_e, masg_u, masg_v, masg_o, gsub_e, fsub_e, gput_e, mput_e, mput2_e, mput3_e, fapp_e, app1_e, mapp_e, mapp2_e, mapp3_e, ownAt_e, mown_o, mown_i, isLst_e, mlst_e, varE_e, mvar_v, mvar_o, mvar_i, mvar_l, frng_e, mrng_e, mrng2_e, fof_e, mof_e, mof2_e, toSrc_v, toSrc_o, toSrc_b, msrc_o, msrc_l, items_l, items_t, ftup_e, flst_e, mtup_e, mlis_e, mtup2_e, fand_e, mand_t, mand_f, ret_v, ret_o, ret_b, mret_o, mret_ln, partR_t, partR_f, callG_e, mcall_e, mcall2_v, mcall2_o, mcall3_e, newG_e, mnew_e, mnew2_e, mnew3_e, give_n, give_c, gvc_e, gvm_e, give_v, mg1_e, give_rv, give_ro, give_rb, mgr_o, mgr_i, mgr_l, give_mo, give_mb, mgm_o, mgm_i, tb_n, tb_0, tb_i, tb_u, mtb_e, mtb2_e, fin_n, fin_r, mfin_e, mou_e, ou_n, ou_i, ou_v, ou_l, gatt_e, matt_e, matt2_e, matt3_e, getI0, getI1, setI0, setI1, omap_s, obind_s, nic_n, nic_i, bAdd, bSub, cLt, cLe, cGt, cGe, cEq, cNe, Bool.not_true, Bool.not_false, List.cons_append, List.nil_append, fslc_e, fslcB_e, fslcC_e, intP_e, slc_e]
  rw [cmpId rfl FreeS.un (cutI_len hn) fun z => by simp only [sz0, sz1, sz2, sz3, sz4, sz5, sz6, sz7, sz8, sz9, sz10, sz11, sz12, sz13, sz14, e_var, e_non, e_bl, e_int, e_str, e_glo, e_bin, e_neg, e_inv, e_nt, e_cmp, e_cmp2, e_and, e_or, e_ite, e_tup, e_lst, e_sub, e_slc, e_att, e_ccon, e_call, e_new, e_isi, e_bi, e_bm, e_mth, e_lso, e_app, e_pop, e_popAt, e_comp, es_nil, es_cons, t_and, t_or, t_nt, t_var, t_cmp, t_cmp2, t_call, t_isi, t_bi, t_bin, t_att, t_mth, t_bl, src_of, src_range1, src_range2, src_enum, src_zip, src_rev, s_expr, s_set, s_hold, s_setsub, s_setatt, s_unpack, s_ite, s_for, s_ret, s_retN, s_pass, s_brk, s_cnt, s_never, ss_nil, ss_cons, b1_ok, b2_ok, bs_ok, bE_ok, bL_ok, bT_ok, bI_ok, sE_ok, sT_ok, sI_ok, seq_nx, seq_rt, fite_t, fite_f, gite_t, gite_f, fnot_e, gexpr_e, gret_e, fcon_e, rdc_v, rdc_o, rdc_b, rd_v, rd_o, rd_i, rd_l, m1_e, op1_e, m2_e, op2_e, mk_t, mk_f, okB_e, m2c_e, fcmp_e, m3_t, m3_f, mc2_e, fcmp2_e, cmp2_e, nt_e, neg_e, tru_bl, tru_int, tru_non, tru1_e, consO_e, rdcs_n, rdcs_c, bi1_e, mbi_e, nxO_e, toVal_v, toVal_o, toVal_b, mval_o, mval_v, toVals_n, toVals_c, tvc_e, mapd_e, gset_e, mset_e, ghold_o, ghold_v, asg_e, masg_u, masg_v, masg_o, gsub_e, fsub_e, gput_e, mput_e, mput2_e, mput3_e, fapp_e, app1_e, mapp_e, mapp2_e, mapp3_e, ownAt_e, mown_o, mown_i, isLst_e, mlst_e, varE_e, mvar_v, mvar_o, mvar_i, mvar_l, frng_e, mrng_e, mrng2_e, fof_e, mof_e, mof2_e, toSrc_v, toSrc_o, toSrc_b, msrc_o, msrc_l, items_l, items_t, ftup_e, flst_e, mtup_e, mlis_e, mtup2_e, fand_e, mand_t, mand_f, ret_v, ret_o, ret_b, mret_o, mret_ln, partR_t, partR_f, callG_e, mcall_e, mcall2_v, mcall2_o, mcall3_e, newG_e, mnew_e, mnew2_e, mnew3_e, give_n, give_c, gvc_e, gvm_e, give_v, mg1_e, give_rv, give_ro, give_rb, mgr_o, mgr_i, mgr_l, give_mo, give_mb, mgm_o, mgm_i, tb_n, tb_0, tb_i, tb_u, mtb_e, mtb2_e, fin_n, fin_r, mfin_e, mou_e, ou_n, ou_i, ou_v, ou_l, gatt_e, matt_e, matt2_e, matt3_e, getI0, getI1, setI0, setI1, omap_s, obind_s, nic_n, nic_i, bAdd, bSub, cLt, cLe, cGt, cGe, cEq, cNe, Bool.not_true, Bool.not_false, List.cons_append, List.nil_append, bi_int]]
  generalize cutI ns none (some 63) = cs
  rw [show D.lst (cs.map D.int) = cellsD cs from rfl]
  obtain ⟨i1, b1, r1, hr1, e1⟩ := digit_run (n + 3) cs 0 0 12 ⟨by decide, by decide⟩
  have e1 : callF T (n + 4) 2 [.val (cellsD cs), .io (.lst [.int 0, .int 0]), .val (.int 12)] = .ret (.val (.int (r1 : Int))) [.un, .io (.lst [.int i1, .int b1]), .un] := e1
  obtain ⟨h, hh, h1, h7⟩ := hands_ok (r := r1) (by omega)
  have hh2 : sub2 (.lst [.int 3, .int 2, .int 4, .int 1, .int 5, .int 3, .int 2, .int 4, .int 3, .int 2, .int 6, .int 7]) (.int (r1 : Int)) = some (false, .int (h : Int)) := by
    show (atI (hands.map D.int) _).map _ = _
    rw [atI_nat (by simp [hands]; omega), List.getElem?_map, hh]; rfl
  obtain ⟨i2, b2, r2, hr2, e2⟩ := digit_run (n + 3) cs i1 b1 3 ⟨by decide, by decide⟩
  obtain ⟨i3, b3, g, N, e3⟩ := by_amounts_run (n + 2) h cs i2 b2 h1 h7
  simp only [st2, st3, st4, sz0, sz1, sz2, sz3, sz4, sz5, sz6, sz7, sz8, sz9, sz10, sz11, sz12, sz13, sz14, e_var, e_non, e_bl, e_int, e_str, e_glo, e_bin, e_neg, e_inv, e_nt, e_cmp, e_cmp2, e_and, e_or, e_ite, e_tup, e_lst, e_sub, e_slc, e_att, e_ccon, e_call, e_new, e_isi, e_bi, e_bm, e_mth, e_lso, e_app, e_pop, e_popAt, e_comp, es_nil, es_cons, t_and, t_or, t_nt, t_var, t_cmp, t_cmp2, t_call, t_isi, t_bi, t_bin, t_att, t_mth, t_bl, src_of, src_range1, src_range2, src_enum, src_zip, src_rev, s_expr, s_set, s_hold, s_setsub, s_setatt, s_unpack, s_ite, s_for, s_ret, s_retN, s_pass, s_brk, s_cnt, s_never, ss_nil, ss_cons, b1_ok, b2_ok, bs_ok, bE_ok, bL_ok, bT_ok, bI_ok, sE_ok, sT_ok, sI_ok, seq_nx, seq_rt, fite_t, fite_f, gite_t, gite_f, fnot_e, gexpr_e, gret_e, fcon_e, rdc_v, rdc_o, rdc_b, rd_v, rd_o, rd_i, rd_l, m1_e, op1_e, m2_e, op2_e, mk_t, mk_f, okB_e, m2c_e, fcmp_e, m3_t, m3_f, mc2_e, fcmp2_e, cmp2_e, nt_e, neg_e, tru_bl, tru_int, tru_non, tru1_e, consO_e, rdcs_n, rdcs_c, bi1_e, mbi_e, nxO_e, toVal_v, toVal_o, toVal_b, mval_o, mval_v, toVals_n, toVals_c, tvc_e, mapd_e, gset_e, mset_e, ghold_o, ghold_v, asg_e, masg_u, masg_v, masg_o, gsub_e, fsub_e, gput_e, mput_e, mput2_e, mput3_e, fapp_e, app1_e, mapp_e, mapp2_e, mapp3_e, ownAt_e, mown_o, mown_i, isLst_e, mlst_e, varE_e, mvar_v, mvar_o, mvar_i, mvar_l, frng_e, mrng_e, mrng2_e, fof_e, mof_e, mof2_e, toSrc_v, toSrc_o, toSrc_b, msrc_o, msrc_l, items_l, items_t, ftup_e, flst_e, mtup_e, mlis_e, mtup2_e, fand_e, mand_t, mand_f, ret_v, ret_o, ret_b, mret_o, mret_ln, partR_t, partR_f, callG_e, mcall_e, mcall2_v, mcall2_o, mcall3_e, newG_e, mnew_e, mnew2_e, mnew3_e, give_n, give_c, gvc_e, gvm_e, give_v, mg1_e, give_rv, give_ro, give_rb, mgr_o, mgr_i, mgr_l, give_mo, give_mb, mgm_o, mgm_i, tb_n, tb_0, tb_i, tb_u, mtb_e, mtb2_e, fin_n, fin_r, mfin_e, mou_e, ou_n, ou_i, ou_v, ou_l, gatt_e, matt_e, matt2_e, matt3_e, getI0, getI1, setI0, setI1, omap_s, obind_s, nic_n, nic_i, bAdd, bSub, cLt, cLe, cGt, cGe, cEq, cNe, Bool.not_true, Bool.not_false, List.cons_append, List.nil_append, fn_law, fn_Scale___init, fn_law_digit, cd_law_digit, fn_law_by_amounts, cd_law_by_amounts, fn_law_due_halves, cd_law_due_halves, fn_additive, cd_additive, fn_law_same, cd_law_same, fn_law_push, cd_law_push, fn_law_pushed, cd_law_pushed, fn_law_halves, cd_law_halves, fn_law_adds_up, cd_law_adds_up, fn_idle_hands, cd_idle_hands, fn_law_idle, cd_law_idle, fn_check_hands, cd_check_hands, fn_check_length, cd_check_length, fn_check_opposite, cd_check_opposite, fn_check_rising, cd_check_rising, fn_check_number, cd_check_number, fn_law_amounts, cd_law_amounts, fn_law_fits, cd_law_fits, fn_amounts_of, cd_amounts_of, fn_Ratio___init, fn_rest_mask, cd_rest_mask, fn_with_hand, cd_with_hand, fn_has_hand, cd_has_hand, nd_Scale_2, nd_Ratio_1, nd_Ratio_2, at_Scale_hands, at_Scale_numbers, li_Scale, at_Ratio_top, at_Ratio_bottom, cc_Scale_MOST, gl_MOST_HANDS, gl_MOST_PART, is_Scale_non, is_Scale_bl, is_Scale_int, is_Scale_str, is_Scale_lst, is_Scale_tup, is_Scale_Scale, is_Scale_Ratio, is_bool_non, is_bool_bl, is_bool_int, is_bool_str, is_bool_lst, is_bool_tup, is_bool_Scale, is_bool_Ratio, is_int_non, is_int_bl, is_int_int, is_int_str, is_int_lst, is_int_tup, is_int_Scale, is_int_Ratio, is_str_non, is_str_bl, is_str_int, is_str_str, is_str_lst, is_str_tup, is_str_Scale, is_str_Ratio, is_list_non, is_list_bl, is_list_int, is_list_str, is_list_lst, is_list_tup, is_list_Scale, is_list_Ratio, is_tuple_non, is_tuple_bl, is_tuple_int, is_tuple_str, is_tuple_lst, is_tuple_tup, is_tuple_Scale, is_tuple_Ratio, is_Ratio_non, is_Ratio_bl, is_Ratio_int, is_Ratio_str, is_Ratio_lst, is_Ratio_tup, is_Ratio_Scale, is_Ratio_Ratio, e1, hh2, e2, e3]
  have p2 := pow1 h1
  have p7 := pow7 h7
  have hr3 : r2 < 3 := by omega
  rcases r2 with _ | _ | _ | r2
  · refine ⟨cs, i3, b3, h, g, .val (.int 0), .un, .un, h1, h7, N, FreeS.un, FreeS.un, ?_⟩
    have d1 : decide (((0 : Nat) : Int) = 1) = false := by decide
    have d2 : decide (((0 : Nat) : Int) = 2) = false := by decide
    simp only [st5, st6, sz0, sz1, sz2, sz3, sz4, sz5, sz6, sz7, sz8, sz9, sz10, sz11, sz12, sz13, sz14, e_var, e_non, e_bl, e_int, e_str, e_glo, e_bin, e_neg, e_inv, e_nt, e_cmp, e_cmp2, e_and, e_or, e_ite, e_tup, e_lst, e_sub, e_slc, e_att, e_ccon, e_call, e_new, e_isi, e_bi, e_bm, e_mth, e_lso, e_app, e_pop, e_popAt, e_comp, es_nil, es_cons, t_and, t_or, t_nt, t_var, t_cmp, t_cmp2, t_call, t_isi, t_bi, t_bin, t_att, t_mth, t_bl, src_of, src_range1, src_range2, src_enum, src_zip, src_rev, s_expr, s_set, s_hold, s_setsub, s_setatt, s_unpack, s_ite, s_for, s_ret, s_retN, s_pass, s_brk, s_cnt, s_never, ss_nil, ss_cons, b1_ok, b2_ok, bs_ok, bE_ok, bL_ok, bT_ok, bI_ok, sE_ok, sT_ok, sI_ok, seq_nx, seq_rt, fite_t, fite_f, gite_t, gite_f, fnot_e, gexpr_e, gret_e, fcon_e, rdc_v, rdc_o, rdc_b, rd_v, rd_o, rd_i, rd_l, m1_e, op1_e, m2_e, op2_e, mk_t, mk_f, okB_e, m2c_e, fcmp_e, m3_t, m3_f, mc2_e, fcmp2_e, cmp2_e, nt_e, neg_e, tru_bl, tru_int, tru_non, tru1_e, consO_e, rdcs_n, rdcs_c, bi1_e, mbi_e, nxO_e, toVal_v, toVal_o, toVal_b, mval_o, mval_v, toVals_n, toVals_c, tvc_e, mapd_e, gset_e, mset_e, ghold_o, ghold_v, asg_e, masg_u, masg_v, masg_o, gsub_e, fsub_e, gput_e, mput_e, mput2_e, mput3_e, fapp_e, app1_e, mapp_e, mapp2_e, mapp3_e, ownAt_e, mown_o, mown_i, isLst_e, mlst_e, varE_e, mvar_v, mvar_o, mvar_i, mvar_l, frng_e, mrng_e, mrng2_e, fof_e, mof_e, mof2_e, toSrc_v, toSrc_o, toSrc_b, msrc_o, msrc_l, items_l, items_t, ftup_e, flst_e, mtup_e, mlis_e, mtup2_e, fand_e, mand_t, mand_f, ret_v, ret_o, ret_b, mret_o, mret_ln, partR_t, partR_f, callG_e, mcall_e, mcall2_v, mcall2_o, mcall3_e, newG_e, mnew_e, mnew2_e, mnew3_e, give_n, give_c, gvc_e, gvm_e, give_v, mg1_e, give_rv, give_ro, give_rb, mgr_o, mgr_i, mgr_l, give_mo, give_mb, mgm_o, mgm_i, tb_n, tb_0, tb_i, tb_u, mtb_e, mtb2_e, fin_n, fin_r, mfin_e, mou_e, ou_n, ou_i, ou_v, ou_l, gatt_e, matt_e, matt2_e, matt3_e, getI0, getI1, setI0, setI1, omap_s, obind_s, nic_n, nic_i, bAdd, bSub, cLt, cLe, cGt, cGe, cEq, cNe, Bool.not_true, Bool.not_false, List.cons_append, List.nil_append, d1, d2]
    rfl
  · have d1 : decide (((0 + 1 : Nat) : Int) = 1) = true := by decide
    have d2 : decide (((0 + 1 : Nat) : Int) = 2) = false := by decide
    obtain ⟨i4, b4, r4, hr4, e4⟩ := digit_run (n + 3) cs i3 b3 (((2 ^ h : Nat) : Int) - 1) (by omega)
    obtain ⟨i5, b5, r5, hr5, e5⟩ := digit_run (n + 3) cs i4 b4 3 ⟨by decide, by decide⟩
    have q : (1 : Int) + (r4 : Int) = ((1 + r4 : Nat) : Int) := by omega
    have ql : 1 + r4 < 2 ^ h := by omega
    have bd := N.bd _ ql
    let v : Int := if g (1 + r4) + 1 + (r5 : Int) < 10 ^ 9 then g (1 + r4) + 1 + (r5 : Int) else 10 ^ 9
    have vb : -(10 ^ 9) ≤ v ∧ v ≤ 10 ^ 9 := by
      show -(10 ^ 9) ≤ (if g (1 + r4) + 1 + (r5 : Int) < 10 ^ 9 then g (1 + r4) + 1 + (r5 : Int) else 10 ^ 9) ∧ (if g (1 + r4) + 1 + (r5 : Int) < 10 ^ 9 then g (1 + r4) + 1 + (r5 : Int) else 10 ^ 9) ≤ 10 ^ 9
      split <;> omega
    have hv : biD .min [.int (10 ^ 9), .int (g (1 + r4) + 1 + (r5 : Int))] = some (false, .int v) := bi_min
    refine ⟨cs, i5, b5, h, pushG g (2 ^ h - 1) (1 + r4) v (2 ^ h), .val (.int 1), .val (.int ((1 + r4 : Nat) : Int)), .val (.int (g (1 + r4) + 1 + (r5 : Int))), h1, h7, push_nums N vb (by omega), FreeS.val, FreeS.val, ?_⟩
    simp only [st5, st6, sz0, sz1, sz2, sz3, sz4, sz5, sz6, sz7, sz8, sz9, sz10, sz11, sz12, sz13, sz14, e_var, e_non, e_bl, e_int, e_str, e_glo, e_bin, e_neg, e_inv, e_nt, e_cmp, e_cmp2, e_and, e_or, e_ite, e_tup, e_lst, e_sub, e_slc, e_att, e_ccon, e_call, e_new, e_isi, e_bi, e_bm, e_mth, e_lso, e_app, e_pop, e_popAt, e_comp, es_nil, es_cons, t_and, t_or, t_nt, t_var, t_cmp, t_cmp2, t_call, t_isi, t_bi, t_bin, t_att, t_mth, t_bl, src_of, src_range1, src_range2, src_enum, src_zip, src_rev, s_expr, s_set, s_hold, s_setsub, s_setatt, s_unpack, s_ite, s_for, s_ret, s_retN, s_pass, s_brk, s_cnt, s_never, ss_nil, ss_cons, b1_ok, b2_ok, bs_ok, bE_ok, bL_ok, bT_ok, bI_ok, sE_ok, sT_ok, sI_ok, seq_nx, seq_rt, fite_t, fite_f, gite_t, gite_f, fnot_e, gexpr_e, gret_e, fcon_e, rdc_v, rdc_o, rdc_b, rd_v, rd_o, rd_i, rd_l, m1_e, op1_e, m2_e, op2_e, mk_t, mk_f, okB_e, m2c_e, fcmp_e, m3_t, m3_f, mc2_e, fcmp2_e, cmp2_e, nt_e, neg_e, tru_bl, tru_int, tru_non, tru1_e, consO_e, rdcs_n, rdcs_c, bi1_e, mbi_e, nxO_e, toVal_v, toVal_o, toVal_b, mval_o, mval_v, toVals_n, toVals_c, tvc_e, mapd_e, gset_e, mset_e, ghold_o, ghold_v, asg_e, masg_u, masg_v, masg_o, gsub_e, fsub_e, gput_e, mput_e, mput2_e, mput3_e, fapp_e, app1_e, mapp_e, mapp2_e, mapp3_e, ownAt_e, mown_o, mown_i, isLst_e, mlst_e, varE_e, mvar_v, mvar_o, mvar_i, mvar_l, frng_e, mrng_e, mrng2_e, fof_e, mof_e, mof2_e, toSrc_v, toSrc_o, toSrc_b, msrc_o, msrc_l, items_l, items_t, ftup_e, flst_e, mtup_e, mlis_e, mtup2_e, fand_e, mand_t, mand_f, ret_v, ret_o, ret_b, mret_o, mret_ln, partR_t, partR_f, callG_e, mcall_e, mcall2_v, mcall2_o, mcall3_e, newG_e, mnew_e, mnew2_e, mnew3_e, give_n, give_c, gvc_e, gvm_e, give_v, mg1_e, give_rv, give_ro, give_rb, mgr_o, mgr_i, mgr_l, give_mo, give_mb, mgm_o, mgm_i, tb_n, tb_0, tb_i, tb_u, mtb_e, mtb2_e, fin_n, fin_r, mfin_e, mou_e, ou_n, ou_i, ou_v, ou_l, gatt_e, matt_e, matt2_e, matt3_e, getI0, getI1, setI0, setI1, omap_s, obind_s, nic_n, nic_i, bAdd, bSub, cLt, cLe, cGt, cGe, cEq, cNe, Bool.not_true, Bool.not_false, List.cons_append, List.nil_append, fn_law, fn_Scale___init, fn_law_digit, cd_law_digit, fn_law_by_amounts, cd_law_by_amounts, fn_law_due_halves, cd_law_due_halves, fn_additive, cd_additive, fn_law_same, cd_law_same, fn_law_push, cd_law_push, fn_law_pushed, cd_law_pushed, fn_law_halves, cd_law_halves, fn_law_adds_up, cd_law_adds_up, fn_idle_hands, cd_idle_hands, fn_law_idle, cd_law_idle, fn_check_hands, cd_check_hands, fn_check_length, cd_check_length, fn_check_opposite, cd_check_opposite, fn_check_rising, cd_check_rising, fn_check_number, cd_check_number, fn_law_amounts, cd_law_amounts, fn_law_fits, cd_law_fits, fn_amounts_of, cd_amounts_of, fn_Ratio___init, fn_rest_mask, cd_rest_mask, fn_with_hand, cd_with_hand, fn_has_hand, cd_has_hand, nd_Scale_2, nd_Ratio_1, nd_Ratio_2, at_Scale_hands, at_Scale_numbers, li_Scale, at_Ratio_top, at_Ratio_bottom, cc_Scale_MOST, gl_MOST_HANDS, gl_MOST_PART, is_Scale_non, is_Scale_bl, is_Scale_int, is_Scale_str, is_Scale_lst, is_Scale_tup, is_Scale_Scale, is_Scale_Ratio, is_bool_non, is_bool_bl, is_bool_int, is_bool_str, is_bool_lst, is_bool_tup, is_bool_Scale, is_bool_Ratio, is_int_non, is_int_bl, is_int_int, is_int_str, is_int_lst, is_int_tup, is_int_Scale, is_int_Ratio, is_str_non, is_str_bl, is_str_int, is_str_str, is_str_lst, is_str_tup, is_str_Scale, is_str_Ratio, is_list_non, is_list_bl, is_list_int, is_list_str, is_list_lst, is_list_tup, is_list_Scale, is_list_Ratio, is_tuple_non, is_tuple_bl, is_tuple_int, is_tuple_str, is_tuple_lst, is_tuple_tup, is_tuple_Scale, is_tuple_Ratio, is_Ratio_non, is_Ratio_bl, is_Ratio_int, is_Ratio_str, is_Ratio_lst, is_Ratio_tup, is_Ratio_Scale, is_Ratio_Ratio, d1, d2, shl1 (show h ≤ 1000000 by omega), e4, q, sub2_tab ql, e5, p9, hv, push_run (n + 3) h g (1 + r4) v h1 h7 (by omega)]
    rfl
  · have d1 : decide (((0 + 1 + 1 : Nat) : Int) = 1) = false := by decide
    have d2 : decide (((0 + 1 + 1 : Nat) : Int) = 2) = true := by decide
    obtain ⟨i4, b4, g2, N2, e4⟩ := pushed_run (n + 2) h cs i3 b3 h1 h7
    refine ⟨cs, i4, b4, h, g2, .val (.int 2), .un, .un, h1, h7, N2, FreeS.un, FreeS.un, ?_⟩
    simp only [st5, st6, sz0, sz1, sz2, sz3, sz4, sz5, sz6, sz7, sz8, sz9, sz10, sz11, sz12, sz13, sz14, e_var, e_non, e_bl, e_int, e_str, e_glo, e_bin, e_neg, e_inv, e_nt, e_cmp, e_cmp2, e_and, e_or, e_ite, e_tup, e_lst, e_sub, e_slc, e_att, e_ccon, e_call, e_new, e_isi, e_bi, e_bm, e_mth, e_lso, e_app, e_pop, e_popAt, e_comp, es_nil, es_cons, t_and, t_or, t_nt, t_var, t_cmp, t_cmp2, t_call, t_isi, t_bi, t_bin, t_att, t_mth, t_bl, src_of, src_range1, src_range2, src_enum, src_zip, src_rev, s_expr, s_set, s_hold, s_setsub, s_setatt, s_unpack, s_ite, s_for, s_ret, s_retN, s_pass, s_brk, s_cnt, s_never, ss_nil, ss_cons, b1_ok, b2_ok, bs_ok, bE_ok, bL_ok, bT_ok, bI_ok, sE_ok, sT_ok, sI_ok, seq_nx, seq_rt, fite_t, fite_f, gite_t, gite_f, fnot_e, gexpr_e, gret_e, fcon_e, rdc_v, rdc_o, rdc_b, rd_v, rd_o, rd_i, rd_l, m1_e, op1_e, m2_e, op2_e, mk_t, mk_f, okB_e, m2c_e, fcmp_e, m3_t, m3_f, mc2_e, fcmp2_e, cmp2_e, nt_e, neg_e, tru_bl, tru_int, tru_non, tru1_e, consO_e, rdcs_n, rdcs_c, bi1_e, mbi_e, nxO_e, toVal_v, toVal_o, toVal_b, mval_o, mval_v, toVals_n, toVals_c, tvc_e, mapd_e, gset_e, mset_e, ghold_o, ghold_v, asg_e, masg_u, masg_v, masg_o, gsub_e, fsub_e, gput_e, mput_e, mput2_e, mput3_e, fapp_e, app1_e, mapp_e, mapp2_e, mapp3_e, ownAt_e, mown_o, mown_i, isLst_e, mlst_e, varE_e, mvar_v, mvar_o, mvar_i, mvar_l, frng_e, mrng_e, mrng2_e, fof_e, mof_e, mof2_e, toSrc_v, toSrc_o, toSrc_b, msrc_o, msrc_l, items_l, items_t, ftup_e, flst_e, mtup_e, mlis_e, mtup2_e, fand_e, mand_t, mand_f, ret_v, ret_o, ret_b, mret_o, mret_ln, partR_t, partR_f, callG_e, mcall_e, mcall2_v, mcall2_o, mcall3_e, newG_e, mnew_e, mnew2_e, mnew3_e, give_n, give_c, gvc_e, gvm_e, give_v, mg1_e, give_rv, give_ro, give_rb, mgr_o, mgr_i, mgr_l, give_mo, give_mb, mgm_o, mgm_i, tb_n, tb_0, tb_i, tb_u, mtb_e, mtb2_e, fin_n, fin_r, mfin_e, mou_e, ou_n, ou_i, ou_v, ou_l, gatt_e, matt_e, matt2_e, matt3_e, getI0, getI1, setI0, setI1, omap_s, obind_s, nic_n, nic_i, bAdd, bSub, cLt, cLe, cGt, cGe, cEq, cNe, Bool.not_true, Bool.not_false, List.cons_append, List.nil_append, fn_law, fn_Scale___init, fn_law_digit, cd_law_digit, fn_law_by_amounts, cd_law_by_amounts, fn_law_due_halves, cd_law_due_halves, fn_additive, cd_additive, fn_law_same, cd_law_same, fn_law_push, cd_law_push, fn_law_pushed, cd_law_pushed, fn_law_halves, cd_law_halves, fn_law_adds_up, cd_law_adds_up, fn_idle_hands, cd_idle_hands, fn_law_idle, cd_law_idle, fn_check_hands, cd_check_hands, fn_check_length, cd_check_length, fn_check_opposite, cd_check_opposite, fn_check_rising, cd_check_rising, fn_check_number, cd_check_number, fn_law_amounts, cd_law_amounts, fn_law_fits, cd_law_fits, fn_amounts_of, cd_amounts_of, fn_Ratio___init, fn_rest_mask, cd_rest_mask, fn_with_hand, cd_with_hand, fn_has_hand, cd_has_hand, nd_Scale_2, nd_Ratio_1, nd_Ratio_2, at_Scale_hands, at_Scale_numbers, li_Scale, at_Ratio_top, at_Ratio_bottom, cc_Scale_MOST, gl_MOST_HANDS, gl_MOST_PART, is_Scale_non, is_Scale_bl, is_Scale_int, is_Scale_str, is_Scale_lst, is_Scale_tup, is_Scale_Scale, is_Scale_Ratio, is_bool_non, is_bool_bl, is_bool_int, is_bool_str, is_bool_lst, is_bool_tup, is_bool_Scale, is_bool_Ratio, is_int_non, is_int_bl, is_int_int, is_int_str, is_int_lst, is_int_tup, is_int_Scale, is_int_Ratio, is_str_non, is_str_bl, is_str_int, is_str_str, is_str_lst, is_str_tup, is_str_Scale, is_str_Ratio, is_list_non, is_list_bl, is_list_int, is_list_str, is_list_lst, is_list_tup, is_list_Scale, is_list_Ratio, is_tuple_non, is_tuple_bl, is_tuple_int, is_tuple_str, is_tuple_lst, is_tuple_tup, is_tuple_Scale, is_tuple_Ratio, is_Ratio_non, is_Ratio_bl, is_Ratio_int, is_Ratio_str, is_Ratio_lst, is_Ratio_tup, is_Ratio_Scale, is_Ratio_Ratio, d1, d2, e4]
    rfl
  · omega
end Wf.L10

namespace Wf.L10
open PySem PySem.Spec PyProof.Rows L2 Wf
theorem cNotN : cmpD .IsNot .non .non = some false := id rfl
theorem cNotL {xs : List D} : cmpD .IsNot (.lst xs) .non = some true := id rfl
theorem same_due (n h : Nat) (A : Nat → Int) (h7 : h ≤ 7) : callF T (n + 3) 6 [.val (.lst (tab (fun j => halfD (A j)) h)), .lk (.lst (tab (fun j => halfD (A j)) h))] = .ret (.val (.bl true)) [.un, .un] := by
  refine same_lst (n + 2) _ (by rw [tab_len]; omega) fun k hk => ?_
  rw [tab_len] at hk
  have e : (tab (fun j => halfD (A j)) h)[k]'(by rw [tab_len]; exact hk) = halfD (A k) := by
    have := tab_get (g := fun j => halfD (A j)) hk
    exact Option.some.inj ((List.getElem?_eq_getElem (by rw [tab_len]; exact hk)).symm.trans this)
  rw [e]
  refine same_tup (n + 1) _ (by simp) fun k hk => ?_
  rcases k with _ | _ | k
  · exact same_int n _
  · exact same_int n _
  · simp only [List.length_cons, List.length_nil] at hk; omega
theorem same_ints (n : Nat) (f : Nat → Int) (m : Nat) (hm : m ≤ 1000) : callF T (n + 2) 6 [.val (.lst (tabI f m)), .lk (.lst (tabI f m))] = .ret (.val (.bl true)) [.un, .un] := by
  refine same_lst (n + 1) _ (by rw [tab_len]; exact hm) fun k hk => ?_
  rw [tab_len] at hk
  have e : (tabI f m)[k]'(by rw [tab_len]; exact hk) = .int (f k) := by
    have := tab_get (g := fun j => D.int (f j)) hk
    exact Option.some.inj ((List.getElem?_eq_getElem (by rw [tab_len]; exact hk)).symm.trans this)
  rw [e]
  exact same_int n _
theorem same_idle (n h : Nat) (g : Nat → Int) (h7 : h ≤ 7) : callF T (n + 2) 6 [.val (idleD h g), .lk (idleD h g)] = .ret (.val (.bl true)) [.un, .un] := by
  refine same_tup (n + 1) _ ?_ fun k hk => ?_
  · have := List.length_filter_le (idle1 h g) (List.range h)
    rw [List.length_range] at this
    rw [List.length_map]; omega
  · rw [List.getElem_map]
    exact same_int n _
theorem ix_snoc {g : Nat → D} {n : Nat} {d : D} : ixN (tab g n ++ [d]).length 0 = some 0 := by
  have := ixN_nat (n := (tab g n ++ [d]).length) (k := 0) (by simp)
  exact this
theorem am_bd {h : Nat} {g : Nat → Int} (N : Nums h g (10 ^ 9)) {j : Nat} (hj : j < h) : -(10 ^ 60) ≤ am g j 0 ∧ am g j 0 ≤ 10 ^ 60 := by
  have p0 := Nat.two_pow_pos h
  have a := N.bd 0 p0
  have b := N.bd (0 ||| 2 ^ j) (or_lt p0 hj)
  have hM : (10 : Int) ^ 60 = 1000000000000000000000000000000000000000000000000000000000000 := by decide
  rw [hM]
  unfold am
  omega
theorem tail_run (n : Nat) (x0 : D) (cs : List Int) (i : Nat) (b : Int) (h : Nat) (g : Nat → Int) (x4 s9 s10 : Slot) (h1 : 1 ≤ h) (h7 : h ≤ 7) (N : Nums h g (10 ^ 9)) :
    finC [.val x0] (evalSs T (callF T (n + 4)) c7 [.val x0, .val (cellsD cs), .own (.lst [.int i, .int b]), .val (.int (h : Int)), x4, .own (.lst (tabI g (2 ^ h))), .un, .un, .un, s9, s10, .un]) = .ret (.val (.bl true)) [.un] := by
  have p7 := pow7 h7
  have i0 : isiD T (.cls 0) (scaleD h g) = some (false, .bl true) := id rfl
  have l0 : lsoD T (scaleD h g) = some (true, .lst (tabI g (2 ^ h))) := id rfl
  have e1 := scale_run (n + 1) h g h1 h7 N
  have e9 := idle_hands_run (n + 1) h g h7
  have e10 := law_idle_run (n + 3) h g h7
  have e11 := same_idle (n + 2) h g h7
  have e12 := same_int (n + 3) (h : Int)
  have e13 := same_ints (n + 2) g (2 ^ h) (by omega)
  rcases due_halves_run (n + 2) h g h7 with ⟨F, e2⟩ | ⟨F, e2⟩
  · rcases additive_run (n + 1) h g h7 (fun j hj => am_bd N hj) with ⟨_, e3⟩ | ⟨F2, _⟩
    · have e4 := halves_run (n + 3) h (fun j => am g j 0) h7
      have e5 := same_due (n + 1) h (fun j => am g j 0) h7
      have e6 := adds_up_run (n + 3) h g _ h7 N F
      simp only [c7, st7, st8, st9, st10, st11, st12, st13, st14, st15, sz0, sz1, sz2, sz3, sz4, sz5, sz6, sz7, sz8, sz9, sz10, sz11, sz12, sz13, sz14, e_var, e_non, e_bl, e_int, e_str, e_glo, e_bin, e_neg, e_inv, e_nt, e_cmp, e_cmp2, e_and, e_or, e_ite, e_tup, e_lst, e_sub, e_slc, e_att, e_ccon, e_call, e_new, e_isi, e_bi, e_bm, e_mth, e_lso, e_app, e_pop, e_popAt, e_comp, es_nil, es_cons, t_and, t_or, t_nt, t_var, t_cmp, t_cmp2, t_call, t_isi, t_bi, t_bin, t_att, t_mth, t_bl, src_of, src_range1, src_range2, src_enum, src_zip, src_rev, s_expr, s_set, s_hold, s_setsub, s_setatt, s_unpack, s_ite, s_for, s_ret, s_retN, s_pass, s_brk, s_cnt, s_never, ss_nil, ss_cons, b1_ok, b2_ok, bs_ok, bE_ok, bL_ok, bT_ok, bI_ok, sE_ok, sT_ok, sI_ok, seq_nx, seq_rt, fite_t, fite_f, gite_t, gite_f, fnot_e, gexpr_e, gret_e, fcon_e, rdc_v, rdc_o, rdc_b, rd_v, rd_o, rd_i, rd_l, m1_e, op1_e, m2_e, op2_e, mk_t, mk_f, okB_e, m2c_e, fcmp_e, m3_t, m3_f, mc2_e, fcmp2_e, cmp2_e, nt_e, neg_e, tru_bl, tru_int, tru_non, tru1_e, consO_e, rdcs_n, rdcs_c, bi1_e, mbi_e, nxO_e, toVal_v, toVal_o, toVal_b, mval_o, mval_v, toVals_n, toVals_c, tvc_e, mapd_e, gset_e, mset_e, ghold_o, ghold_v, asg_e, masg_u, masg_v, masg_o, gsub_e, fsub_e, gput_e, mput_e, mput2_e, mput3_e, fapp_e, app1_e, mapp_e, mapp2_e, mapp3_e, ownAt_e, mown_o, mown_i, isLst_e, mlst_e, varE_e, mvar_v, mvar_o, mvar_i, mvar_l, frng_e, mrng_e, mrng2_e, fof_e, mof_e, mof2_e, toSrc_v, toSrc_o, toSrc_b, msrc_o, msrc_l, items_l, items_t, ftup_e, flst_e, mtup_e, mlis_e, mtup2_e, fand_e, mand_t, mand_f, ret_v, ret_o, ret_b, mret_o, mret_ln, partR_t, partR_f, callG_e, mcall_e, mcall2_v, mcall2_o, mcall3_e, newG_e, mnew_e, mnew2_e, mnew3_e, give_n, give_c, gvc_e, gvm_e, give_v, mg1_e, give_rv, give_ro, give_rb, mgr_o, mgr_i, mgr_l, give_mo, give_mb, mgm_o, mgm_i, tb_n, tb_0, tb_i, tb_u, mtb_e, mtb2_e, fin_n, fin_r, mfin_e, mou_e, ou_n, ou_i, ou_v, ou_l, gatt_e, matt_e, matt2_e, matt3_e, getI0, getI1, setI0, setI1, omap_s, obind_s, nic_n, nic_i, bAdd, bSub, cLt, cLe, cGt, cGe, cEq, cNe, Bool.not_true, Bool.not_false, List.cons_append, List.nil_append, fn_law, fn_Scale___init, fn_law_digit, cd_law_digit, fn_law_by_amounts, cd_law_by_amounts, fn_law_due_halves, cd_law_due_halves, fn_additive, cd_additive, fn_law_same, cd_law_same, fn_law_push, cd_law_push, fn_law_pushed, cd_law_pushed, fn_law_halves, cd_law_halves, fn_law_adds_up, cd_law_adds_up, fn_idle_hands, cd_idle_hands, fn_law_idle, cd_law_idle, fn_check_hands, cd_check_hands, fn_check_length, cd_check_length, fn_check_opposite, cd_check_opposite, fn_check_rising, cd_check_rising, fn_check_number, cd_check_number, fn_law_amounts, cd_law_amounts, fn_law_fits, cd_law_fits, fn_amounts_of, cd_amounts_of, fn_Ratio___init, fn_rest_mask, cd_rest_mask, fn_with_hand, cd_with_hand, fn_has_hand, cd_has_hand, nd_Scale_2, nd_Ratio_1, nd_Ratio_2, at_Scale_hands, at_Scale_numbers, li_Scale, at_Ratio_top, at_Ratio_bottom, cc_Scale_MOST, gl_MOST_HANDS, gl_MOST_PART, is_Scale_non, is_Scale_bl, is_Scale_int, is_Scale_str, is_Scale_lst, is_Scale_tup, is_Scale_Scale, is_Scale_Ratio, is_bool_non, is_bool_bl, is_bool_int, is_bool_str, is_bool_lst, is_bool_tup, is_bool_Scale, is_bool_Ratio, is_int_non, is_int_bl, is_int_int, is_int_str, is_int_lst, is_int_tup, is_int_Scale, is_int_Ratio, is_str_non, is_str_bl, is_str_int, is_str_str, is_str_lst, is_str_tup, is_str_Scale, is_str_Ratio, is_list_non, is_list_bl, is_list_int, is_list_str, is_list_lst, is_list_tup, is_list_Scale, is_list_Ratio, is_tuple_non, is_tuple_bl, is_tuple_int, is_tuple_str, is_tuple_lst, is_tuple_tup, is_tuple_Scale, is_tuple_Ratio, is_Ratio_non, is_Ratio_bl, is_Ratio_int, is_Ratio_str, is_Ratio_lst, is_Ratio_tup, is_Ratio_Scale, is_Ratio_Ratio, bi_list, e1, e2, e3, e4, e5, e6, cNotL, szT (show h ≤ 1000 by omega), ix_snoc, e9, e10, e11, i0, at_sc, e12, l0, e13]
    · exact absurd F F2
  · rcases additive_run (n + 1) h g h7 (fun j hj => am_bd N hj) with ⟨F2, _⟩ | ⟨_, e3⟩
    · exact absurd F2 F
    · have e4 := halves_non (n + 3)
      have e5 := same_non (n + 3)
      simp only [c7, st7, st8, st9, st10, st11, st12, st13, st14, st15, sz0, sz1, sz2, sz3, sz4, sz5, sz6, sz7, sz8, sz9, sz10, sz11, sz12, sz13, sz14, e_var, e_non, e_bl, e_int, e_str, e_glo, e_bin, e_neg, e_inv, e_nt, e_cmp, e_cmp2, e_and, e_or, e_ite, e_tup, e_lst, e_sub, e_slc, e_att, e_ccon, e_call, e_new, e_isi, e_bi, e_bm, e_mth, e_lso, e_app, e_pop, e_popAt, e_comp, es_nil, es_cons, t_and, t_or, t_nt, t_var, t_cmp, t_cmp2, t_call, t_isi, t_bi, t_bin, t_att, t_mth, t_bl, src_of, src_range1, src_range2, src_enum, src_zip, src_rev, s_expr, s_set, s_hold, s_setsub, s_setatt, s_unpack, s_ite, s_for, s_ret, s_retN, s_pass, s_brk, s_cnt, s_never, ss_nil, ss_cons, b1_ok, b2_ok, bs_ok, bE_ok, bL_ok, bT_ok, bI_ok, sE_ok, sT_ok, sI_ok, seq_nx, seq_rt, fite_t, fite_f, gite_t, gite_f, fnot_e, gexpr_e, gret_e, fcon_e, rdc_v, rdc_o, rdc_b, rd_v, rd_o, rd_i, rd_l, m1_e, op1_e, m2_e, op2_e, mk_t, mk_f, okB_e, m2c_e, fcmp_e, m3_t, m3_f, mc2_e, fcmp2_e, cmp2_e, nt_e, neg_e, tru_bl, tru_int, tru_non, tru1_e, consO_e, rdcs_n, rdcs_c, bi1_e, mbi_e, nxO_e, toVal_v, toVal_o, toVal_b, mval_o, mval_v, toVals_n, toVals_c, tvc_e, mapd_e, gset_e, mset_e, ghold_o, ghold_v, asg_e, masg_u, masg_v, masg_o, gsub_e, fsub_e, gput_e, mput_e, mput2_e, mput3_e, fapp_e, app1_e, mapp_e, mapp2_e, mapp3_e, ownAt_e, mown_o, mown_i, isLst_e, mlst_e, varE_e, mvar_v, mvar_o, mvar_i, mvar_l, frng_e, mrng_e, mrng2_e, fof_e, mof_e, mof2_e, toSrc_v, toSrc_o, toSrc_b, msrc_o, msrc_l, items_l, items_t, ftup_e, flst_e, mtup_e, mlis_e, mtup2_e, fand_e, mand_t, mand_f, ret_v, ret_o, ret_b, mret_o, mret_ln, partR_t, partR_f, callG_e, mcall_e, mcall2_v, mcall2_o, mcall3_e, newG_e, mnew_e, mnew2_e, mnew3_e, give_n, give_c, gvc_e, gvm_e, give_v, mg1_e, give_rv, give_ro, give_rb, mgr_o, mgr_i, mgr_l, give_mo, give_mb, mgm_o, mgm_i, tb_n, tb_0, tb_i, tb_u, mtb_e, mtb2_e, fin_n, fin_r, mfin_e, mou_e, ou_n, ou_i, ou_v, ou_l, gatt_e, matt_e, matt2_e, matt3_e, getI0, getI1, setI0, setI1, omap_s, obind_s, nic_n, nic_i, bAdd, bSub, cLt, cLe, cGt, cGe, cEq, cNe, Bool.not_true, Bool.not_false, List.cons_append, List.nil_append, fn_law, fn_Scale___init, fn_law_digit, cd_law_digit, fn_law_by_amounts, cd_law_by_amounts, fn_law_due_halves, cd_law_due_halves, fn_additive, cd_additive, fn_law_same, cd_law_same, fn_law_push, cd_law_push, fn_law_pushed, cd_law_pushed, fn_law_halves, cd_law_halves, fn_law_adds_up, cd_law_adds_up, fn_idle_hands, cd_idle_hands, fn_law_idle, cd_law_idle, fn_check_hands, cd_check_hands, fn_check_length, cd_check_length, fn_check_opposite, cd_check_opposite, fn_check_rising, cd_check_rising, fn_check_number, cd_check_number, fn_law_amounts, cd_law_amounts, fn_law_fits, cd_law_fits, fn_amounts_of, cd_amounts_of, fn_Ratio___init, fn_rest_mask, cd_rest_mask, fn_with_hand, cd_with_hand, fn_has_hand, cd_has_hand, nd_Scale_2, nd_Ratio_1, nd_Ratio_2, at_Scale_hands, at_Scale_numbers, li_Scale, at_Ratio_top, at_Ratio_bottom, cc_Scale_MOST, gl_MOST_HANDS, gl_MOST_PART, is_Scale_non, is_Scale_bl, is_Scale_int, is_Scale_str, is_Scale_lst, is_Scale_tup, is_Scale_Scale, is_Scale_Ratio, is_bool_non, is_bool_bl, is_bool_int, is_bool_str, is_bool_lst, is_bool_tup, is_bool_Scale, is_bool_Ratio, is_int_non, is_int_bl, is_int_int, is_int_str, is_int_lst, is_int_tup, is_int_Scale, is_int_Ratio, is_str_non, is_str_bl, is_str_int, is_str_str, is_str_lst, is_str_tup, is_str_Scale, is_str_Ratio, is_list_non, is_list_bl, is_list_int, is_list_str, is_list_lst, is_list_tup, is_list_Scale, is_list_Ratio, is_tuple_non, is_tuple_bl, is_tuple_int, is_tuple_str, is_tuple_lst, is_tuple_tup, is_tuple_Scale, is_tuple_Ratio, is_Ratio_non, is_Ratio_bl, is_Ratio_int, is_Ratio_str, is_Ratio_lst, is_Ratio_tup, is_Ratio_Scale, is_Ratio_Ratio, bi_list, e1, e2, e3, e4, e5, cNotN, e9, e10, e11, i0, at_sc, e12, l0, e13]
theorem plain (ns : List Int) (hn : ns.length ≤ 63) : ∃ outs, callF T 6 0 [.val (.scr ns)] = .ret (.val (.bl true)) outs := by
  rw [callF_at fn_law rfl]
  obtain ⟨cs, i, b, h, g, x4, s9, s10, h1, h7, N, _, _, e⟩ := start_run 1 ns hn
  refine ⟨[.un], ?_⟩
  have e2 := tail_run 1 (.scr ns) cs i b h g x4 s9 s10 h1 h7 N
  rw [← e] at e2
  exact e2
end Wf.L10

namespace Wf.L10
open PySem PySem.Spec PyProof.Rows L2 Wf
set_option maxHeartbeats 0 in
theorem all_mk {P : Program} {w : World} {K : PySem.W.Frag} {h : Heap} {mg : Str → Option Value} {fa a0 a1 a2 a3 a4 a5 a6 a7 a8 a9 a10 a11 a12 a13 a14 a15 a16 a17 a18 a19 a20 a21 a22 a23 a24 C0 C1 : Addr} (X : K.In h) (G : h.Ns mainGlobals mg) (hfa : mg "law" = some (.ref fa))
    {od0 an0 : Option Addr} {sl0 : Array (Option Value)} {oc0 kv0 dc0 pm0 cd0 ct0 : Value}
    {od1 an1 : Option Addr} {sl1 : Array (Option Value)} {oc1 kv1 dc1 pm1 cd1 ct1 : Value}
    {od2 an2 : Option Addr} {sl2 : Array (Option Value)} {oc2 kv2 dc2 pm2 cd2 ct2 : Value}
    {od3 an3 : Option Addr} {sl3 : Array (Option Value)} {oc3 kv3 dc3 pm3 cd3 ct3 : Value}
    {od4 an4 : Option Addr} {sl4 : Array (Option Value)} {oc4 kv4 dc4 pm4 cd4 ct4 : Value}
    {od5 an5 : Option Addr} {sl5 : Array (Option Value)} {oc5 kv5 dc5 pm5 cd5 ct5 : Value}
    {od6 an6 : Option Addr} {sl6 : Array (Option Value)} {oc6 kv6 dc6 pm6 cd6 ct6 : Value}
    {od7 an7 : Option Addr} {sl7 : Array (Option Value)} {oc7 kv7 dc7 pm7 cd7 ct7 : Value}
    {od8 an8 : Option Addr} {sl8 : Array (Option Value)} {oc8 kv8 dc8 pm8 cd8 ct8 : Value}
    {od9 an9 : Option Addr} {sl9 : Array (Option Value)} {oc9 kv9 dc9 pm9 cd9 ct9 : Value}
    {od10 an10 : Option Addr} {sl10 : Array (Option Value)} {oc10 kv10 dc10 pm10 cd10 ct10 : Value}
    {od11 an11 : Option Addr} {sl11 : Array (Option Value)} {oc11 kv11 dc11 pm11 cd11 ct11 : Value}
    {od12 an12 : Option Addr} {sl12 : Array (Option Value)} {oc12 kv12 dc12 pm12 cd12 ct12 : Value}
    {od13 an13 : Option Addr} {sl13 : Array (Option Value)} {oc13 kv13 dc13 pm13 cd13 ct13 : Value}
    {od14 an14 : Option Addr} {sl14 : Array (Option Value)} {oc14 kv14 dc14 pm14 cd14 ct14 : Value}
    {od15 an15 : Option Addr} {sl15 : Array (Option Value)} {oc15 kv15 dc15 pm15 cd15 ct15 : Value}
    {od16 an16 : Option Addr} {sl16 : Array (Option Value)} {oc16 kv16 dc16 pm16 cd16 ct16 : Value}
    {od17 an17 : Option Addr} {sl17 : Array (Option Value)} {oc17 kv17 dc17 pm17 cd17 ct17 : Value}
    {od18 an18 : Option Addr} {sl18 : Array (Option Value)} {oc18 kv18 dc18 pm18 cd18 ct18 : Value}
    {od19 an19 : Option Addr} {sl19 : Array (Option Value)} {oc19 kv19 dc19 pm19 cd19 ct19 : Value}
    {od20 an20 : Option Addr} {sl20 : Array (Option Value)} {oc20 kv20 dc20 pm20 cd20 ct20 : Value}
    {od21 an21 : Option Addr} {sl21 : Array (Option Value)} {oc21 dc21 pm21 cd21 ct21 : Value}
    {dT21 : Addr}
    {dK21 : Addr}
    {dO21 : Obj} {dN21 : Nat}
    {dv21_0 : Value}
    {kw21_0 : Value}
    {od22 an22 : Option Addr} {sl22 : Array (Option Value)} {oc22 kv22 dc22 pm22 cd22 ct22 : Value}
    {od23 an23 : Option Addr} {sl23 : Array (Option Value)} {oc23 kv23 dc23 pm23 cd23 ct23 : Value}
    {od24 an24 : Option Addr} {sl24 : Array (Option Value)} {oc24 kv24 dc24 pm24 cd24 ct24 : Value}
    {fiC0 : Addr}
    {odIC0 anIC0 : Option Addr} {slIC0 : Array (Option Value)} {ocIC0 kvIC0 dcIC0 pmIC0 cdIC0 ctIC0 : Value}
    {cvC0_3 : Value}
    {gv0 : Value}
    {gv1 : Value}
    (gC0 : PySem.W.nsIn K mainGlobals "Scale" = some (some (.ref C0)))
    (gC1 : PySem.W.nsIn K mainGlobals "Ratio" = some (some (.ref C1)))
    (g0 : PySem.W.nsIn K mainGlobals "law" = some (some (.ref a0)))
    (l0 : K.lookup a0 = some ⟨oc0, od0, .func (PySem.W.fnOf "law" "law" (defArgs s_law) (defBody s_law) (defScope s_law) .none kv0 dc0 pm0 an0 cd0 ct0), sl0⟩)
    (c0 : PySem.W.codeIn K cd0 "law" = true)
    (k0 : PySem.W.keepIn K (.ref a0) = true)
    (g1 : PySem.W.findIn K (.ref C0) "__init__" = some (some (.ref a1)))
    (i1 : PySem.W.isFn K (.ref a1) = true)
    (l1 : K.lookup a1 = some ⟨oc1, od1, .func (PySem.W.fnOf "__init__" "Scale.__init__" (defArgs s_Scale___init) (defBody s_Scale___init) (defScope s_Scale___init) .none kv1 dc1 pm1 an1 cd1 ct1), sl1⟩)
    (c1 : PySem.W.codeIn K cd1 "Scale.__init__" = true)
    (g2 : PySem.W.nsIn K mainGlobals "_law_digit" = some (some (.ref a2)))
    (l2 : K.lookup a2 = some ⟨oc2, od2, .func (PySem.W.fnOf "_law_digit" "_law_digit" (defArgs s_law_digit) (defBody s_law_digit) (defScope s_law_digit) .none kv2 dc2 pm2 an2 cd2 ct2), sl2⟩)
    (c2 : PySem.W.codeIn K cd2 "_law_digit" = true)
    (k2 : PySem.W.keepIn K (.ref a2) = true)
    (g3 : PySem.W.nsIn K mainGlobals "_law_by_amounts" = some (some (.ref a3)))
    (l3 : K.lookup a3 = some ⟨oc3, od3, .func (PySem.W.fnOf "_law_by_amounts" "_law_by_amounts" (defArgs s_law_by_amounts) (defBody s_law_by_amounts) (defScope s_law_by_amounts) .none kv3 dc3 pm3 an3 cd3 ct3), sl3⟩)
    (c3 : PySem.W.codeIn K cd3 "_law_by_amounts" = true)
    (k3 : PySem.W.keepIn K (.ref a3) = true)
    (g4 : PySem.W.nsIn K mainGlobals "_law_due_halves" = some (some (.ref a4)))
    (l4 : K.lookup a4 = some ⟨oc4, od4, .func (PySem.W.fnOf "_law_due_halves" "_law_due_halves" (defArgs s_law_due_halves) (defBody s_law_due_halves) (defScope s_law_due_halves) .none kv4 dc4 pm4 an4 cd4 ct4), sl4⟩)
    (c4 : PySem.W.codeIn K cd4 "_law_due_halves" = true)
    (k4 : PySem.W.keepIn K (.ref a4) = true)
    (g5 : PySem.W.nsIn K mainGlobals "additive" = some (some (.ref a5)))
    (l5 : K.lookup a5 = some ⟨oc5, od5, .func (PySem.W.fnOf "additive" "additive" (defArgs s_additive) (defBody s_additive) (defScope s_additive) .none kv5 dc5 pm5 an5 cd5 ct5), sl5⟩)
    (c5 : PySem.W.codeIn K cd5 "additive" = true)
    (k5 : PySem.W.keepIn K (.ref a5) = true)
    (g6 : PySem.W.nsIn K mainGlobals "_law_same" = some (some (.ref a6)))
    (l6 : K.lookup a6 = some ⟨oc6, od6, .func (PySem.W.fnOf "_law_same" "_law_same" (defArgs s_law_same) (defBody s_law_same) (defScope s_law_same) .none kv6 dc6 pm6 an6 cd6 ct6), sl6⟩)
    (c6 : PySem.W.codeIn K cd6 "_law_same" = true)
    (k6 : PySem.W.keepIn K (.ref a6) = true)
    (g7 : PySem.W.nsIn K mainGlobals "_law_push" = some (some (.ref a7)))
    (l7 : K.lookup a7 = some ⟨oc7, od7, .func (PySem.W.fnOf "_law_push" "_law_push" (defArgs s_law_push) (defBody s_law_push) (defScope s_law_push) .none kv7 dc7 pm7 an7 cd7 ct7), sl7⟩)
    (c7 : PySem.W.codeIn K cd7 "_law_push" = true)
    (k7 : PySem.W.keepIn K (.ref a7) = true)
    (g8 : PySem.W.nsIn K mainGlobals "_law_pushed" = some (some (.ref a8)))
    (l8 : K.lookup a8 = some ⟨oc8, od8, .func (PySem.W.fnOf "_law_pushed" "_law_pushed" (defArgs s_law_pushed) (defBody s_law_pushed) (defScope s_law_pushed) .none kv8 dc8 pm8 an8 cd8 ct8), sl8⟩)
    (c8 : PySem.W.codeIn K cd8 "_law_pushed" = true)
    (k8 : PySem.W.keepIn K (.ref a8) = true)
    (g9 : PySem.W.nsIn K mainGlobals "_law_halves" = some (some (.ref a9)))
    (l9 : K.lookup a9 = some ⟨oc9, od9, .func (PySem.W.fnOf "_law_halves" "_law_halves" (defArgs s_law_halves) (defBody s_law_halves) (defScope s_law_halves) .none kv9 dc9 pm9 an9 cd9 ct9), sl9⟩)
    (c9 : PySem.W.codeIn K cd9 "_law_halves" = true)
    (k9 : PySem.W.keepIn K (.ref a9) = true)
    (g10 : PySem.W.nsIn K mainGlobals "_law_adds_up" = some (some (.ref a10)))
    (l10 : K.lookup a10 = some ⟨oc10, od10, .func (PySem.W.fnOf "_law_adds_up" "_law_adds_up" (defArgs s_law_adds_up) (defBody s_law_adds_up) (defScope s_law_adds_up) .none kv10 dc10 pm10 an10 cd10 ct10), sl10⟩)
    (c10 : PySem.W.codeIn K cd10 "_law_adds_up" = true)
    (k10 : PySem.W.keepIn K (.ref a10) = true)
    (g11 : PySem.W.nsIn K mainGlobals "idle_hands" = some (some (.ref a11)))
    (l11 : K.lookup a11 = some ⟨oc11, od11, .func (PySem.W.fnOf "idle_hands" "idle_hands" (defArgs s_idle_hands) (defBody s_idle_hands) (defScope s_idle_hands) .none kv11 dc11 pm11 an11 cd11 ct11), sl11⟩)
    (c11 : PySem.W.codeIn K cd11 "idle_hands" = true)
    (k11 : PySem.W.keepIn K (.ref a11) = true)
    (g12 : PySem.W.nsIn K mainGlobals "_law_idle" = some (some (.ref a12)))
    (l12 : K.lookup a12 = some ⟨oc12, od12, .func (PySem.W.fnOf "_law_idle" "_law_idle" (defArgs s_law_idle) (defBody s_law_idle) (defScope s_law_idle) .none kv12 dc12 pm12 an12 cd12 ct12), sl12⟩)
    (c12 : PySem.W.codeIn K cd12 "_law_idle" = true)
    (k12 : PySem.W.keepIn K (.ref a12) = true)
    (g13 : PySem.W.nsIn K mainGlobals "check_hands" = some (some (.ref a13)))
    (l13 : K.lookup a13 = some ⟨oc13, od13, .func (PySem.W.fnOf "check_hands" "check_hands" (defArgs s_check_hands) (defBody s_check_hands) (defScope s_check_hands) .none kv13 dc13 pm13 an13 cd13 ct13), sl13⟩)
    (c13 : PySem.W.codeIn K cd13 "check_hands" = true)
    (k13 : PySem.W.keepIn K (.ref a13) = true)
    (g14 : PySem.W.nsIn K mainGlobals "check_length" = some (some (.ref a14)))
    (l14 : K.lookup a14 = some ⟨oc14, od14, .func (PySem.W.fnOf "check_length" "check_length" (defArgs s_check_length) (defBody s_check_length) (defScope s_check_length) .none kv14 dc14 pm14 an14 cd14 ct14), sl14⟩)
    (c14 : PySem.W.codeIn K cd14 "check_length" = true)
    (k14 : PySem.W.keepIn K (.ref a14) = true)
    (g15 : PySem.W.nsIn K mainGlobals "check_opposite" = some (some (.ref a15)))
    (l15 : K.lookup a15 = some ⟨oc15, od15, .func (PySem.W.fnOf "check_opposite" "check_opposite" (defArgs s_check_opposite) (defBody s_check_opposite) (defScope s_check_opposite) .none kv15 dc15 pm15 an15 cd15 ct15), sl15⟩)
    (c15 : PySem.W.codeIn K cd15 "check_opposite" = true)
    (k15 : PySem.W.keepIn K (.ref a15) = true)
    (g16 : PySem.W.nsIn K mainGlobals "check_rising" = some (some (.ref a16)))
    (l16 : K.lookup a16 = some ⟨oc16, od16, .func (PySem.W.fnOf "check_rising" "check_rising" (defArgs s_check_rising) (defBody s_check_rising) (defScope s_check_rising) .none kv16 dc16 pm16 an16 cd16 ct16), sl16⟩)
    (c16 : PySem.W.codeIn K cd16 "check_rising" = true)
    (k16 : PySem.W.keepIn K (.ref a16) = true)
    (g17 : PySem.W.nsIn K mainGlobals "check_number" = some (some (.ref a17)))
    (l17 : K.lookup a17 = some ⟨oc17, od17, .func (PySem.W.fnOf "check_number" "check_number" (defArgs s_check_number) (defBody s_check_number) (defScope s_check_number) .none kv17 dc17 pm17 an17 cd17 ct17), sl17⟩)
    (c17 : PySem.W.codeIn K cd17 "check_number" = true)
    (k17 : PySem.W.keepIn K (.ref a17) = true)
    (g18 : PySem.W.nsIn K mainGlobals "_law_amounts" = some (some (.ref a18)))
    (l18 : K.lookup a18 = some ⟨oc18, od18, .func (PySem.W.fnOf "_law_amounts" "_law_amounts" (defArgs s_law_amounts) (defBody s_law_amounts) (defScope s_law_amounts) .none kv18 dc18 pm18 an18 cd18 ct18), sl18⟩)
    (c18 : PySem.W.codeIn K cd18 "_law_amounts" = true)
    (k18 : PySem.W.keepIn K (.ref a18) = true)
    (g19 : PySem.W.nsIn K mainGlobals "_law_fits" = some (some (.ref a19)))
    (l19 : K.lookup a19 = some ⟨oc19, od19, .func (PySem.W.fnOf "_law_fits" "_law_fits" (defArgs s_law_fits) (defBody s_law_fits) (defScope s_law_fits) .none kv19 dc19 pm19 an19 cd19 ct19), sl19⟩)
    (c19 : PySem.W.codeIn K cd19 "_law_fits" = true)
    (k19 : PySem.W.keepIn K (.ref a19) = true)
    (g20 : PySem.W.nsIn K mainGlobals "amounts_of" = some (some (.ref a20)))
    (l20 : K.lookup a20 = some ⟨oc20, od20, .func (PySem.W.fnOf "amounts_of" "amounts_of" (defArgs s_amounts_of) (defBody s_amounts_of) (defScope s_amounts_of) .none kv20 dc20 pm20 an20 cd20 ct20), sl20⟩)
    (c20 : PySem.W.codeIn K cd20 "amounts_of" = true)
    (k20 : PySem.W.keepIn K (.ref a20) = true)
    (g21 : PySem.W.findIn K (.ref C1) "__init__" = some (some (.ref a21)))
    (i21 : PySem.W.isFn K (.ref a21) = true)
    (l21 : K.lookup a21 = some ⟨oc21, od21, .func (PySem.W.fnOf "__init__" "Ratio.__init__" (defArgs s_Ratio___init) (defBody s_Ratio___init) (defScope s_Ratio___init) (.ref dT21) (.ref dK21) dc21 pm21 an21 cd21 ct21), sl21⟩)
    (c21 : PySem.W.codeIn K cd21 "Ratio.__init__" = true)
    (dt21 : K.lookup dT21 = some dO21)
    (ds21 : dO21.data = .seq [dv21_0].toArray dN21)
    (dr21 : Vals [toV (.int 1)] [dv21_0])
    (dk21_0 : PySem.W.nsIn K dK21 "_bounded" = some (some kw21_0))
    (dq21_0 : RelV (toV (.bl true)) kw21_0)
    (g22 : PySem.W.nsIn K mainGlobals "rest_mask" = some (some (.ref a22)))
    (l22 : K.lookup a22 = some ⟨oc22, od22, .func (PySem.W.fnOf "rest_mask" "rest_mask" (defArgs s_rest_mask) (defBody s_rest_mask) (defScope s_rest_mask) .none kv22 dc22 pm22 an22 cd22 ct22), sl22⟩)
    (c22 : PySem.W.codeIn K cd22 "rest_mask" = true)
    (k22 : PySem.W.keepIn K (.ref a22) = true)
    (g23 : PySem.W.nsIn K mainGlobals "with_hand" = some (some (.ref a23)))
    (l23 : K.lookup a23 = some ⟨oc23, od23, .func (PySem.W.fnOf "with_hand" "with_hand" (defArgs s_with_hand) (defBody s_with_hand) (defScope s_with_hand) .none kv23 dc23 pm23 an23 cd23 ct23), sl23⟩)
    (c23 : PySem.W.codeIn K cd23 "with_hand" = true)
    (k23 : PySem.W.keepIn K (.ref a23) = true)
    (g24 : PySem.W.nsIn K mainGlobals "has_hand" = some (some (.ref a24)))
    (l24 : K.lookup a24 = some ⟨oc24, od24, .func (PySem.W.fnOf "has_hand" "has_hand" (defArgs s_has_hand) (defBody s_has_hand) (defScope s_has_hand) .none kv24 dc24 pm24 an24 cd24 ct24), sl24⟩)
    (c24 : PySem.W.codeIn K cd24 "has_hand" = true)
    (k24 : PySem.W.keepIn K (.ref a24) = true)
    (igC0 : PySem.W.findIn K (.ref C0) "__iter__" = some (some (.ref fiC0)))
    (iiC0 : PySem.W.isFn K (.ref fiC0) = true)
    (inC0 : PySem.W.findIn K (.ref C0) "__len__" = some none)
    (ihC0 : PySem.W.findIn K (.ref C0) "__length_hint__" = some none)
    (lIC0 : K.lookup fiC0 = some ⟨ocIC0, odIC0, .func (PySem.W.fnOf "__iter__" "Scale.__iter__" (defArgs si_Scale) (defBody si_Scale) (defScope si_Scale) .none kvIC0 dcIC0 pmIC0 anIC0 cdIC0 ctIC0), slIC0⟩)
    (cIC0 : PySem.W.codeIn K cdIC0 "Scale.__iter__" = true)
    (pgC0 : PySem.W.plainGet K C0 Str.empty = true)
    (hdC0 : PySem.W.hasDictIn K C0 = true)
    (poC0 : PySem.W.plainOver K C0 = true)
    (saC0 : PySem.W.findIn K (.ref C0) "__setattr__" = some (some (.builtin "object.__setattr__")))
    (mkC0 : PySem.W.makesIn K C0 = true)
    (kcC0 : PySem.W.keepIn K (.ref C0) = true)
    (nfC0_1 : PySem.W.findIn K (.ref C0) "hands" = some none)
    (nfC0_2 : PySem.W.findIn K (.ref C0) "_numbers" = some none)
    (icC0 : PySem.W.findIn K (.ref C0) "__class__" = some (some (.builtin "object.__class__")))
    (moC0 : PySem.W.mroIn K C0 (.type "object") = some true)
    (kiC0_bl : PySem.W.mroIn K C0 (.type "bool") = some false)
    (kiC0_int : PySem.W.mroIn K C0 (.type "int") = some false)
    (kiC0_str : PySem.W.mroIn K C0 (.type "str") = some false)
    (kiC0_lst : PySem.W.mroIn K C0 (.type "list") = some false)
    (kiC0_tup : PySem.W.mroIn K C0 (.type "tuple") = some false)
    (kiC0_C1 : PySem.W.mroIn K C0 (.ref C1) = some false)
    (neC0_C1 : C0 ≠ C1)
    (pgC1 : PySem.W.plainGet K C1 Str.empty = true)
    (hdC1 : PySem.W.hasDictIn K C1 = true)
    (poC1 : PySem.W.plainOver K C1 = true)
    (saC1 : PySem.W.findIn K (.ref C1) "__setattr__" = some (some (.builtin "object.__setattr__")))
    (mkC1 : PySem.W.makesIn K C1 = true)
    (kcC1 : PySem.W.keepIn K (.ref C1) = true)
    (nfC1_4 : PySem.W.findIn K (.ref C1) "top" = some none)
    (nfC1_5 : PySem.W.findIn K (.ref C1) "bottom" = some none)
    (icC1 : PySem.W.findIn K (.ref C1) "__class__" = some (some (.builtin "object.__class__")))
    (moC1 : PySem.W.mroIn K C1 (.type "object") = some true)
    (kiC1_bl : PySem.W.mroIn K C1 (.type "bool") = some false)
    (kiC1_int : PySem.W.mroIn K C1 (.type "int") = some false)
    (kiC1_str : PySem.W.mroIn K C1 (.type "str") = some false)
    (kiC1_lst : PySem.W.mroIn K C1 (.type "list") = some false)
    (kiC1_tup : PySem.W.mroIn K C1 (.type "tuple") = some false)
    (kiC1_C0 : PySem.W.mroIn K C1 (.ref C0) = some false)
    (neC1_C0 : C1 ≠ C0)
    (isC0 : PySem.W.isClsIn K C0 = true)
    (tcC0 : PySem.W.typeIn K (.ref C0) = some (.type "type"))
    (isC1 : PySem.W.isClsIn K C1 = true)
    (tcC1 : PySem.W.typeIn K (.ref C1) = some (.type "type"))
    (sg : PySem.W.specialIn K (.builtin "object.__class__") "__get__" = some (some (.builtin "getset_descriptor.__get__")))
    (tk : PySem.W.takesIn K (.builtin "object.__class__") = some true)
    (coC0_3 : PySem.W.findIn K (.ref C0) "MOST" = some (some cvC0_3))
    (crC0_3 : RelV (toV (.int 1000000000)) cvC0_3)
    (csC0_3 : PySem.W.specialIn K cvC0_3 "__get__" = some none)
    (cdC0_3 : PySem.W.readsIn K C0 (.type "type") = true)
    (cgC0_3 : PySem.W.specialIn K (.ref C0) "__getattribute__" = some (some (.builtin "type.__getattribute__")))
    (cfC0_3 : PySem.W.findCls K (.ref C0) (.type "type") "MOST" = some (.val cvC0_3))
    (gc0 : PySem.W.nsIn K mainGlobals "MOST_HANDS" = some (some gv0))
    (gr0 : RelV (toV (.int 7)) gv0)
    (gc1 : PySem.W.nsIn K mainGlobals "MOST_PART" = some (some gv1))
    (gr1 : RelV (toV (.int 1000000000000000000000000000000000000000000000000000000000000)) gv1)
    (z_isinstance : PySem.W.nsIn K mainGlobals "isinstance" = some none)
    (z_range : PySem.W.nsIn K mainGlobals "range" = some none)
    (z_enumerate : PySem.W.nsIn K mainGlobals "enumerate" = some none)
    (z_zip : PySem.W.nsIn K mainGlobals "zip" = some none)
    (z_reversed : PySem.W.nsIn K mainGlobals "reversed" = some none)
    (z_iter : PySem.W.nsIn K mainGlobals "iter" = some none)
    (z_list : PySem.W.nsIn K mainGlobals "list" = some none)
    (z_bool : PySem.W.nsIn K mainGlobals "bool" = some none)
    (z_int : PySem.W.nsIn K mainGlobals "int" = some none)
    (z_str : PySem.W.nsIn K mainGlobals "str" = some none)
    (z_tuple : PySem.W.nsIn K mainGlobals "tuple" = some none)
    (z_dict : PySem.W.nsIn K mainGlobals "dict" = some none)
    (z_ValueError : PySem.W.nsIn K mainGlobals "ValueError" = some none)
    (z_all : PySem.W.nsIn K mainGlobals "all" = some none)
    (z_any : PySem.W.nsIn K mainGlobals "any" = some none)
    (z_len : PySem.W.nsIn K mainGlobals "len" = some none)
    (z_min : PySem.W.nsIn K mainGlobals "min" = some none)
    (z_sum : PySem.W.nsIn K mainGlobals "sum" = some none)
    (z_gcd : PySem.W.nsIn K mainGlobals "gcd" = some (some (.builtin "math.gcd")))
    : ∃ fd : FuncData, (∀ (s : Shared) (u : Value), BindsTo s fd ⟨[u], []⟩ [("_law_script", u)]) ∧ ∀ base : Heap, K.In base → base.Ns mainGlobals mg → FnOk P w K mg base (L2.CX P w) 16 fa fd ["_law_script"] (spLaw K 63) := by
  have e := hfa.symm.trans (PySem.W.mg_of X G g0)
  cases e
  have nm : NmOk (nmF K [C0, C1] flds) := ⟨mkFld_inj (xs := flds) (by decide +kernel) (by decide +kernel)⟩
  have cl_C0 : Cls K C0 := ⟨pgC0, hdC0, poC0, saC0⟩
  have cl_C1 : Cls K C1 := ⟨pgC1, hdC1, poC1, saC1⟩
  have ws : Ws K mg (nmF K [C0, C1] flds) T M (nthD [fa, a1, a2, a3, a4, a5, a6, a7, a8, a9, a10, a11, a12, a13, a14, a15, a16, a17, a18, a19, a20, a21, a22, a23, a24]) := {
    nm := nm
    kl := fun a ns h => h
    fn := fun f x e => match f, e with
      | 2, rfl => ⟨PySem.W.mg_of X G g2, k2, _, rfl⟩
      | 3, rfl => ⟨PySem.W.mg_of X G g3, k3, _, rfl⟩
      | 4, rfl => ⟨PySem.W.mg_of X G g4, k4, _, rfl⟩
      | 5, rfl => ⟨PySem.W.mg_of X G g5, k5, _, rfl⟩
      | 6, rfl => ⟨PySem.W.mg_of X G g6, k6, _, rfl⟩
      | 7, rfl => ⟨PySem.W.mg_of X G g7, k7, _, rfl⟩
      | 8, rfl => ⟨PySem.W.mg_of X G g8, k8, _, rfl⟩
      | 9, rfl => ⟨PySem.W.mg_of X G g9, k9, _, rfl⟩
      | 10, rfl => ⟨PySem.W.mg_of X G g10, k10, _, rfl⟩
      | 11, rfl => ⟨PySem.W.mg_of X G g11, k11, _, rfl⟩
      | 12, rfl => ⟨PySem.W.mg_of X G g12, k12, _, rfl⟩
      | 13, rfl => ⟨PySem.W.mg_of X G g13, k13, _, rfl⟩
      | 14, rfl => ⟨PySem.W.mg_of X G g14, k14, _, rfl⟩
      | 15, rfl => ⟨PySem.W.mg_of X G g15, k15, _, rfl⟩
      | 16, rfl => ⟨PySem.W.mg_of X G g16, k16, _, rfl⟩
      | 17, rfl => ⟨PySem.W.mg_of X G g17, k17, _, rfl⟩
      | 18, rfl => ⟨PySem.W.mg_of X G g18, k18, _, rfl⟩
      | 19, rfl => ⟨PySem.W.mg_of X G g19, k19, _, rfl⟩
      | 20, rfl => ⟨PySem.W.mg_of X G g20, k20, _, rfl⟩
      | 22, rfl => ⟨PySem.W.mg_of X G g22, k22, _, rfl⟩
      | 23, rfl => ⟨PySem.W.mg_of X G g23, k23, _, rfl⟩
      | 24, rfl => ⟨PySem.W.mg_of X G g24, k24, _, rfl⟩
    meth := fun C m f Ca e1 e2 => nomatch e1
    cls := fun C x e => match C, e with
      | 0, rfl => ⟨C0, rfl, PySem.W.mg_of X G gC0⟩
      | 1, rfl => ⟨C1, rfl, PySem.W.mg_of X G gC1⟩
    new := fun C x e => match C, e with
      | 0, rfl => ⟨C0, 1, _, rfl, PySem.W.mg_of X G gC0, rfl, rfl, ⟨mkC0, g1, i1, kcC0⟩⟩
      | 1, rfl => ⟨C1, 21, _, rfl, PySem.W.mg_of X G gC1, rfl, rfl, ⟨mkC1, g21, i21, kcC1⟩⟩
    fld := fun C Ca f e1 e2 => match C, f, e1, e2 with
      | 0, 1, rfl, e2 => ⟨cl_C0, nfC0_1⟩
      | 0, 2, rfl, e2 => ⟨cl_C0, nfC0_2⟩
      | 1, 4, rfl, e2 => ⟨cl_C1, nfC1_4⟩
      | 1, 5, rfl, e2 => ⟨cl_C1, nfC1_5⟩
    icon := fun C Ca f d e1 e2 => match C, f, e1, e2 with
      | 0, 3, rfl, rfl => ⟨_, _, cl_C0, ⟨coC0_3, crC0_3, csC0_3, (show PySem.W.copiedNames.contains (mkFld flds 3) = false from by decide +kernel)⟩, fun F H => rep_toV rfl⟩
    ccon := fun C Ca f d e1 e2 => match C, f, e1, e2 with
      | 0, 3, rfl, rfl => ⟨_, _, _, ⟨cdC0_3, cgC0_3⟩, ⟨cfC0_3, crC0_3⟩, fun F H => rep_toV rfl⟩
    con := fun i x d e1 e2 => match i, e1, e2 with
      | 0, rfl, rfl => ⟨_, _, PySem.W.mg_of X G gc0, gr0, fun F H => rep_toV rfl⟩
      | 1, rfl, rfl => ⟨_, _, PySem.W.mg_of X G gc1, gr1, fun F H => rep_toV rfl⟩
    conT := fun i x e => match i, e with
      | 0, rfl => ⟨_, rfl⟩
      | 1, rfl => ⟨_, rfl⟩
    ty := fun t c e => match t, e with
      | .bl, rfl => ⟨_, .ty _, rfl, .inr ⟨PySem.W.mg_none_of X G z_bool, by first | rfl | decide +kernel, by decide⟩⟩
      | .int, rfl => ⟨_, .ty _, rfl, .inr ⟨PySem.W.mg_none_of X G z_int, by first | rfl | decide +kernel, by decide⟩⟩
      | .str, rfl => ⟨_, .ty _, rfl, .inr ⟨PySem.W.mg_none_of X G z_str, by first | rfl | decide +kernel, by decide⟩⟩
      | .lst, rfl => ⟨_, .ty _, rfl, .inr ⟨PySem.W.mg_none_of X G z_list, by first | rfl | decide +kernel, by decide⟩⟩
      | .tup, rfl => ⟨_, .ty _, rfl, .inr ⟨PySem.W.mg_none_of X G z_tuple, by first | rfl | decide +kernel, by decide⟩⟩
      | .dic, rfl => ⟨_, .ty _, rfl, .inr ⟨PySem.W.mg_none_of X G z_dict, by first | rfl | decide +kernel, by decide⟩⟩
      | .verr, rfl => ⟨_, .ty _, rfl, .inr ⟨PySem.W.mg_none_of X G z_ValueError, by first | rfl | decide +kernel, by decide⟩⟩
      | .cls C, e => match C, e with
        | 0, rfl => ⟨_, .own C0, rfl, .inl (PySem.W.mg_of X G gC0)⟩
        | 1, rfl => ⟨_, .own C1, rfl, .inl (PySem.W.mg_of X G gC1)⟩
    kit := fun k t b e => by
      unfold T at e
      simp only at e
      unfold cisi at e
      split at e
      · cases e; exact kit_rt kiC0_bl (by decide +kernel)
      · cases e; exact kit_rt kiC0_int (by decide +kernel)
      · cases e; exact kit_rt kiC0_str (by decide +kernel)
      · cases e; exact kit_rt kiC0_lst (by decide +kernel)
      · cases e; exact kit_rt kiC0_tup (by decide +kernel)
      · cases e; exact kit_self
      · cases e; exact kit_rr neC0_C1 isC1 tcC1 kiC0_C1
      · cases e; exact kit_rt kiC1_bl (by decide +kernel)
      · cases e; exact kit_rt kiC1_int (by decide +kernel)
      · cases e; exact kit_rt kiC1_str (by decide +kernel)
      · cases e; exact kit_rt kiC1_lst (by decide +kernel)
      · cases e; exact kit_rt kiC1_tup (by decide +kernel)
      · cases e; exact kit_rr neC1_C0 isC0 tcC0 kiC1_C0
      · cases e; exact kit_self
      · cases e; exact kit_br (t := .non) rfl isC0 tcC0
      · cases e; exact kit_br (t := .bl) rfl isC0 tcC0
      · cases e; exact kit_br (t := .int) rfl isC0 tcC0
      · cases e; exact kit_br (t := .str) rfl isC0 tcC0
      · cases e; exact kit_br (t := .lst) rfl isC0 tcC0
      · cases e; exact kit_br (t := .tup) rfl isC0 tcC0
      · cases e; exact kit_br (t := .dic) rfl isC0 tcC0
      · cases e; exact kit_br (t := .non) rfl isC1 tcC1
      · cases e; exact kit_br (t := .bl) rfl isC1 tcC1
      · cases e; exact kit_br (t := .int) rfl isC1 tcC1
      · cases e; exact kit_br (t := .str) rfl isC1 tcC1
      · cases e; exact kit_br (t := .lst) rfl isC1 tcC1
      · cases e; exact kit_br (t := .tup) rfl isC1 tcC1
      · cases e; exact kit_br (t := .dic) rfl isC1 tcC1
      · exact isiB_ok e
    inst := fun C Ca t e1 e2 => match C, e1 with
      | 0, rfl => ⟨cl_C0, icC0, sg, tk, moC0⟩
      | 1, rfl => ⟨cl_C1, icC1, sg, tk, moC1⟩
    bi := fun b e => match b, e with
      | .all, _ => ⟨.inl ⟨PySem.W.mg_none_of X G z_all, by first | rfl | decide +kernel⟩, by decide, by decide +kernel⟩
      | .any, _ => ⟨.inl ⟨PySem.W.mg_none_of X G z_any, by first | rfl | decide +kernel⟩, by decide, by decide +kernel⟩
      | .gcd, _ => ⟨.inr ⟨PySem.W.mg_of X G z_gcd, _, rfl⟩, by decide, by decide +kernel⟩
      | .int, _ => ⟨.inl ⟨PySem.W.mg_none_of X G z_int, by first | rfl | decide +kernel⟩, by decide, by decide +kernel⟩
      | .len, _ => ⟨.inl ⟨PySem.W.mg_none_of X G z_len, by first | rfl | decide +kernel⟩, by decide, by decide +kernel⟩
      | .list, _ => ⟨.inl ⟨PySem.W.mg_none_of X G z_list, by first | rfl | decide +kernel⟩, by decide, by decide +kernel⟩
      | .min, _ => ⟨.inl ⟨PySem.W.mg_none_of X G z_min, by first | rfl | decide +kernel⟩, by decide, by decide +kernel⟩
      | .sum, _ => ⟨.inl ⟨PySem.W.mg_none_of X G z_sum, by first | rfl | decide +kernel⟩, by decide, by decide +kernel⟩
      | .tuple, _ => ⟨.inl ⟨PySem.W.mg_none_of X G z_tuple, by first | rfl | decide +kernel⟩, by decide, by decide +kernel⟩
    itf := fun C Ca f e1 e2 => match C, e1, e2 with
      | 0, rfl, rfl => ⟨fiC0, igC0, iiC0, inC0, ihC0, cl_C0, nfC0_2, _, _, _, _, _, _, _, _, _, _, _, _, _, _, _, lIC0, cIC0, sci_Scale, cki_Scale.2.1, cki_Scale.2.2, cki_Scale.1, .all fun us hl => match us, hl with | [_], _ => rfl⟩
    itn := ⟨PySem.W.mg_none_of X G z_iter, PySem.W.mg_none_of X G z_list⟩
    nam := ⟨PySem.W.mg_none_of X G z_isinstance, PySem.W.mg_none_of X G z_range, PySem.W.mg_none_of X G z_enumerate, PySem.W.mg_none_of X G z_zip, PySem.W.mg_none_of X G z_reversed⟩ }
  have t0 : FnT K (nmF K [C0, C1] flds) M fa fd_law := by
    refine ⟨_, _, _, _, _, _, _, _, _, _, _, _, _, _, _, n_law, ["_law_script"], l0, c0, sc_law, rfl, rfl, ck_law, Nat.le_refl _, fun j hj => ?_⟩
    obtain rfl : j = 0 := Nat.le_zero.mp hj
    exact ⟨[], .all fun us hl => match us, hl with | [_], _ => rfl, .nil⟩
  have t1 : FnT K (nmF K [C0, C1] flds) M a1 fd_Scale___init := by
    refine ⟨_, _, _, _, _, _, _, _, _, _, _, _, _, _, _, n_Scale___init, ["self", "hands", "numbers"], l1, c1, sc_Scale___init, rfl, rfl, ck_Scale___init, Nat.le_refl _, fun j hj => ?_⟩
    obtain rfl : j = 0 := Nat.le_zero.mp hj
    exact ⟨[], .all fun us hl => match us, hl with | [_, _, _], _ => rfl, .nil⟩
  have t2 : FnT K (nmF K [C0, C1] flds) M a2 fd_law_digit := by
    refine ⟨_, _, _, _, _, _, _, _, _, _, _, _, _, _, _, n_law_digit, ["_law_cells", "_law_box", "_law_m"], l2, c2, sc_law_digit, rfl, rfl, ck_law_digit, Nat.le_refl _, fun j hj => ?_⟩
    obtain rfl : j = 0 := Nat.le_zero.mp hj
    exact ⟨[], .all fun us hl => match us, hl with | [_, _, _], _ => rfl, .nil⟩
  have t3 : FnT K (nmF K [C0, C1] flds) M a3 fd_law_by_amounts := by
    refine ⟨_, _, _, _, _, _, _, _, _, _, _, _, _, _, _, n_law_by_amounts, ["_law_cells", "_law_box", "_law_hands"], l3, c3, sc_law_by_amounts, rfl, rfl, ck_law_by_amounts, Nat.le_refl _, fun j hj => ?_⟩
    obtain rfl : j = 0 := Nat.le_zero.mp hj
    exact ⟨[], .all fun us hl => match us, hl with | [_, _, _], _ => rfl, .nil⟩
  have t4 : FnT K (nmF K [C0, C1] flds) M a4 fd_law_due_halves := by
    refine ⟨_, _, _, _, _, _, _, _, _, _, _, _, _, _, _, n_law_due_halves, ["_law_hands", "_law_numbers"], l4, c4, sc_law_due_halves, rfl, rfl, ck_law_due_halves, Nat.le_refl _, fun j hj => ?_⟩
    obtain rfl : j = 0 := Nat.le_zero.mp hj
    exact ⟨[], .all fun us hl => match us, hl with | [_, _], _ => rfl, .nil⟩
  have t5 : FnT K (nmF K [C0, C1] flds) M a5 fd_additive := by
    refine ⟨_, _, _, _, _, _, _, _, _, _, _, _, _, _, _, n_additive, ["scale"], l5, c5, sc_additive, rfl, rfl, ck_additive, Nat.le_refl _, fun j hj => ?_⟩
    obtain rfl : j = 0 := Nat.le_zero.mp hj
    exact ⟨[], .all fun us hl => match us, hl with | [_], _ => rfl, .nil⟩
  have t6 : FnT K (nmF K [C0, C1] flds) M a6 fd_law_same := by
    refine ⟨_, _, _, _, _, _, _, _, _, _, _, _, _, _, _, n_law_same, ["_law_told", "_law_due"], l6, c6, sc_law_same, rfl, rfl, ck_law_same, Nat.le_refl _, fun j hj => ?_⟩
    obtain rfl : j = 0 := Nat.le_zero.mp hj
    exact ⟨[], .all fun us hl => match us, hl with | [_, _], _ => rfl, .nil⟩
  have t7 : FnT K (nmF K [C0, C1] flds) M a7 fd_law_push := by
    refine ⟨_, _, _, _, _, _, _, _, _, _, _, _, _, _, _, n_law_push, ["_law_numbers", "_law_mask", "_law_number"], l7, c7, sc_law_push, rfl, rfl, ck_law_push, Nat.le_refl _, fun j hj => ?_⟩
    obtain rfl : j = 0 := Nat.le_zero.mp hj
    exact ⟨[], .all fun us hl => match us, hl with | [_, _, _], _ => rfl, .nil⟩
  have t8 : FnT K (nmF K [C0, C1] flds) M a8 fd_law_pushed := by
    refine ⟨_, _, _, _, _, _, _, _, _, _, _, _, _, _, _, n_law_pushed, ["_law_cells", "_law_box", "_law_hands", "_law_start"], l8, c8, sc_law_pushed, rfl, rfl, ck_law_pushed, Nat.le_refl _, fun j hj => ?_⟩
    obtain rfl : j = 0 := Nat.le_zero.mp hj
    exact ⟨[], .all fun us hl => match us, hl with | [_, _, _, _], _ => rfl, .nil⟩
  have t9 : FnT K (nmF K [C0, C1] flds) M a9 fd_law_halves := by
    refine ⟨_, _, _, _, _, _, _, _, _, _, _, _, _, _, _, n_law_halves, ["_law_told"], l9, c9, sc_law_halves, rfl, rfl, ck_law_halves, Nat.le_refl _, fun j hj => ?_⟩
    obtain rfl : j = 0 := Nat.le_zero.mp hj
    exact ⟨[], .all fun us hl => match us, hl with | [_], _ => rfl, .nil⟩
  have t10 : FnT K (nmF K [C0, C1] flds) M a10 fd_law_adds_up := by
    refine ⟨_, _, _, _, _, _, _, _, _, _, _, _, _, _, _, n_law_adds_up, ["_law_hands", "_law_numbers", "_law_halves_here"], l10, c10, sc_law_adds_up, rfl, rfl, ck_law_adds_up, Nat.le_refl _, fun j hj => ?_⟩
    obtain rfl : j = 0 := Nat.le_zero.mp hj
    exact ⟨[], .all fun us hl => match us, hl with | [_, _, _], _ => rfl, .nil⟩
  have t11 : FnT K (nmF K [C0, C1] flds) M a11 fd_idle_hands := by
    refine ⟨_, _, _, _, _, _, _, _, _, _, _, _, _, _, _, n_idle_hands, ["scale"], l11, c11, sc_idle_hands, rfl, rfl, ck_idle_hands, Nat.le_refl _, fun j hj => ?_⟩
    obtain rfl : j = 0 := Nat.le_zero.mp hj
    exact ⟨[], .all fun us hl => match us, hl with | [_], _ => rfl, .nil⟩
  have t12 : FnT K (nmF K [C0, C1] flds) M a12 fd_law_idle := by
    refine ⟨_, _, _, _, _, _, _, _, _, _, _, _, _, _, _, n_law_idle, ["_law_hands", "_law_numbers"], l12, c12, sc_law_idle, rfl, rfl, ck_law_idle, Nat.le_refl _, fun j hj => ?_⟩
    obtain rfl : j = 0 := Nat.le_zero.mp hj
    exact ⟨[], .all fun us hl => match us, hl with | [_, _], _ => rfl, .nil⟩
  have t13 : FnT K (nmF K [C0, C1] flds) M a13 fd_check_hands := by
    refine ⟨_, _, _, _, _, _, _, _, _, _, _, _, _, _, _, n_check_hands, ["hands", "most"], l13, c13, sc_check_hands, rfl, rfl, ck_check_hands, Nat.le_refl _, fun j hj => ?_⟩
    obtain rfl : j = 0 := Nat.le_zero.mp hj
    exact ⟨[], .all fun us hl => match us, hl with | [_, _], _ => rfl, .nil⟩
  have t14 : FnT K (nmF K [C0, C1] flds) M a14 fd_check_length := by
    refine ⟨_, _, _, _, _, _, _, _, _, _, _, _, _, _, _, n_check_length, ["length", "low", "high"], l14, c14, sc_check_length, rfl, rfl, ck_check_length, Nat.le_refl _, fun j hj => ?_⟩
    obtain rfl : j = 0 := Nat.le_zero.mp hj
    exact ⟨[], .all fun us hl => match us, hl with | [_, _, _], _ => rfl, .nil⟩
  have t15 : FnT K (nmF K [C0, C1] flds) M a15 fd_check_opposite := by
    refine ⟨_, _, _, _, _, _, _, _, _, _, _, _, _, _, _, n_check_opposite, ["hands", "numbers"], l15, c15, sc_check_opposite, rfl, rfl, ck_check_opposite, Nat.le_refl _, fun j hj => ?_⟩
    obtain rfl : j = 0 := Nat.le_zero.mp hj
    exact ⟨[], .all fun us hl => match us, hl with | [_, _], _ => rfl, .nil⟩
  have t16 : FnT K (nmF K [C0, C1] flds) M a16 fd_check_rising := by
    refine ⟨_, _, _, _, _, _, _, _, _, _, _, _, _, _, _, n_check_rising, ["hands", "numbers"], l16, c16, sc_check_rising, rfl, rfl, ck_check_rising, Nat.le_refl _, fun j hj => ?_⟩
    obtain rfl : j = 0 := Nat.le_zero.mp hj
    exact ⟨[], .all fun us hl => match us, hl with | [_, _], _ => rfl, .nil⟩
  have t17 : FnT K (nmF K [C0, C1] flds) M a17 fd_check_number := by
    refine ⟨_, _, _, _, _, _, _, _, _, _, _, _, _, _, _, n_check_number, ["number", "low", "high"], l17, c17, sc_check_number, rfl, rfl, ck_check_number, Nat.le_refl _, fun j hj => ?_⟩
    obtain rfl : j = 0 := Nat.le_zero.mp hj
    exact ⟨[], .all fun us hl => match us, hl with | [_, _, _], _ => rfl, .nil⟩
  have t18 : FnT K (nmF K [C0, C1] flds) M a18 fd_law_amounts := by
    refine ⟨_, _, _, _, _, _, _, _, _, _, _, _, _, _, _, n_law_amounts, ["_law_hands", "_law_numbers"], l18, c18, sc_law_amounts, rfl, rfl, ck_law_amounts, Nat.le_refl _, fun j hj => ?_⟩
    obtain rfl : j = 0 := Nat.le_zero.mp hj
    exact ⟨[], .all fun us hl => match us, hl with | [_, _], _ => rfl, .nil⟩
  have t19 : FnT K (nmF K [C0, C1] flds) M a19 fd_law_fits := by
    refine ⟨_, _, _, _, _, _, _, _, _, _, _, _, _, _, _, n_law_fits, ["_law_hands", "_law_numbers", "_law_amounts_here"], l19, c19, sc_law_fits, rfl, rfl, ck_law_fits, Nat.le_refl _, fun j hj => ?_⟩
    obtain rfl : j = 0 := Nat.le_zero.mp hj
    exact ⟨[], .all fun us hl => match us, hl with | [_, _, _], _ => rfl, .nil⟩
  have t20 : FnT K (nmF K [C0, C1] flds) M a20 fd_amounts_of := by
    refine ⟨_, _, _, _, _, _, _, _, _, _, _, _, _, _, _, n_amounts_of, ["scale", "hand"], l20, c20, sc_amounts_of, rfl, rfl, ck_amounts_of, Nat.le_refl _, fun j hj => ?_⟩
    obtain rfl : j = 0 := Nat.le_zero.mp hj
    exact ⟨[], .all fun us hl => match us, hl with | [_, _], _ => rfl, .nil⟩
  have t21 : FnT K (nmF K [C0, C1] flds) M a21 fd_Ratio___init :=
    ⟨_, _, _, _, _, _, _, _, _, _, _, _, _, _, _, n_Ratio___init, ["self", "top", "bottom", "_bounded"], l21, c21, sc_Ratio___init, rfl, rfl, ck_Ratio___init, by decide, fun j hj => dfl_Ratio___init l21 c21 dt21 ds21 dr21 dk21_0 dq21_0 j hj⟩
  have t22 : FnT K (nmF K [C0, C1] flds) M a22 fd_rest_mask := by
    refine ⟨_, _, _, _, _, _, _, _, _, _, _, _, _, _, _, n_rest_mask, ["hands", "mask"], l22, c22, sc_rest_mask, rfl, rfl, ck_rest_mask, Nat.le_refl _, fun j hj => ?_⟩
    obtain rfl : j = 0 := Nat.le_zero.mp hj
    exact ⟨[], .all fun us hl => match us, hl with | [_, _], _ => rfl, .nil⟩
  have t23 : FnT K (nmF K [C0, C1] flds) M a23 fd_with_hand := by
    refine ⟨_, _, _, _, _, _, _, _, _, _, _, _, _, _, _, n_with_hand, ["mask", "hand"], l23, c23, sc_with_hand, rfl, rfl, ck_with_hand, Nat.le_refl _, fun j hj => ?_⟩
    obtain rfl : j = 0 := Nat.le_zero.mp hj
    exact ⟨[], .all fun us hl => match us, hl with | [_, _], _ => rfl, .nil⟩
  have t24 : FnT K (nmF K [C0, C1] flds) M a24 fd_has_hand := by
    refine ⟨_, _, _, _, _, _, _, _, _, _, _, _, _, _, _, n_has_hand, ["mask", "hand"], l24, c24, sc_has_hand, rfl, rfl, ck_has_hand, Nat.le_refl _, fun j hj => ?_⟩
    obtain rfl : j = 0 := Nat.le_zero.mp hj
    exact ⟨[], .all fun us hl => match us, hl with | [_, _], _ => rfl, .nil⟩
  have ht : ∀ f fd, T.fn f = some fd → FnT K (nmF K [C0, C1] flds) M ((nthD [fa, a1, a2, a3, a4, a5, a6, a7, a8, a9, a10, a11, a12, a13, a14, a15, a16, a17, a18, a19, a20, a21, a22, a23, a24]) f) fd := fun f fd e => match f, e with
    | 0, rfl => t0
    | 1, rfl => t1
    | 2, rfl => t2
    | 3, rfl => t3
    | 4, rfl => t4
    | 5, rfl => t5
    | 6, rfl => t6
    | 7, rfl => t7
    | 8, rfl => t8
    | 9, rfl => t9
    | 10, rfl => t10
    | 11, rfl => t11
    | 12, rfl => t12
    | 13, rfl => t13
    | 14, rfl => t14
    | 15, rfl => t15
    | 16, rfl => t16
    | 17, rfl => t17
    | 18, rfl => t18
    | 19, rfl => t19
    | 20, rfl => t20
    | 21, rfl => t21
    | 22, rfl => t22
    | 23, rfl => t23
    | 24, rfl => t24
  exact ⟨_, fun s u => .of_eq rfl, fun base _ _ => law_fn (P := P) (w := w) ws ht (fun _ _ h => h) (m := 5) (n := 63) (f := 0) (fd := fd_law) rfl l0 c0 sc_law rfl rfl ck_law plain⟩
set_option maxHeartbeats 0 in
theorem all_h {P : Program} {w : World} {K : PySem.W.Frag} {h : Heap} {mg : Str → Option Value} {fa : Addr} (X : K.In h) (G : h.Ns mainGlobals mg) (hfa : mg "law" = some (.ref fa)) (c : SaysW dfn ex K)
    : ∃ fd : FuncData, (∀ (s : Shared) (u : Value), BindsTo s fd ⟨[u], []⟩ [("_law_script", u)]) ∧ ∀ base : Heap, K.In base → base.Ns mainGlobals mg → FnOk P w K mg base (L2.CX P w) 16 fa fd ["_law_script"] (spLaw K 63) := by
  have hx := c.said
  unfold ex at hx
  simp only [Bool.and_eq_true] at hx
  obtain ⟨⟨⟨⟨e0, e1⟩, e2⟩, e3⟩, e4⟩ := hx
  obtain ⟨fd0, F0⟩ := c.def_ 0 (d := dd0) rfl
  obtain ⟨⟨oc0, od0, dV0, kV0, doc0, pm0, an0, cdv0, ct0, osl0, eq0, lo0, co0, df0, kw0⟩, kp0⟩ := F0
  subst eq0
  obtain rfl := dflv_nil df0
  obtain ⟨fd1, F1⟩ := c.def_ 1 (d := dd1) rfl
  obtain ⟨⟨oc1, od1, dV1, kV1, doc1, pm1, an1, cdv1, ct1, osl1, eq1, lo1, co1, df1, kw1⟩, kp1⟩ := F1
  subst eq1
  obtain rfl := dflv_nil df1
  obtain ⟨fd2, F2⟩ := c.def_ 2 (d := dd2) rfl
  obtain ⟨⟨oc2, od2, dV2, kV2, doc2, pm2, an2, cdv2, ct2, osl2, eq2, lo2, co2, df2, kw2⟩, kp2⟩ := F2
  subst eq2
  obtain rfl := dflv_nil df2
  obtain ⟨fd3, F3⟩ := c.def_ 3 (d := dd3) rfl
  obtain ⟨⟨oc3, od3, dV3, kV3, doc3, pm3, an3, cdv3, ct3, osl3, eq3, lo3, co3, df3, kw3⟩, kp3⟩ := F3
  subst eq3
  obtain rfl := dflv_nil df3
  obtain ⟨fd4, F4⟩ := c.def_ 4 (d := dd4) rfl
  obtain ⟨⟨oc4, od4, dV4, kV4, doc4, pm4, an4, cdv4, ct4, osl4, eq4, lo4, co4, df4, kw4⟩, kp4⟩ := F4
  subst eq4
  obtain rfl := dflv_nil df4
  obtain ⟨fd5, F5⟩ := c.def_ 5 (d := dd5) rfl
  obtain ⟨⟨oc5, od5, dV5, kV5, doc5, pm5, an5, cdv5, ct5, osl5, eq5, lo5, co5, df5, kw5⟩, kp5⟩ := F5
  subst eq5
  obtain rfl := dflv_nil df5
  obtain ⟨fd6, F6⟩ := c.def_ 6 (d := dd6) rfl
  obtain ⟨⟨oc6, od6, dV6, kV6, doc6, pm6, an6, cdv6, ct6, osl6, eq6, lo6, co6, df6, kw6⟩, kp6⟩ := F6
  subst eq6
  obtain rfl := dflv_nil df6
  obtain ⟨fd7, F7⟩ := c.def_ 7 (d := dd7) rfl
  obtain ⟨⟨oc7, od7, dV7, kV7, doc7, pm7, an7, cdv7, ct7, osl7, eq7, lo7, co7, df7, kw7⟩, kp7⟩ := F7
  subst eq7
  obtain rfl := dflv_nil df7
  obtain ⟨fd8, F8⟩ := c.def_ 8 (d := dd8) rfl
  obtain ⟨⟨oc8, od8, dV8, kV8, doc8, pm8, an8, cdv8, ct8, osl8, eq8, lo8, co8, df8, kw8⟩, kp8⟩ := F8
  subst eq8
  obtain rfl := dflv_nil df8
  obtain ⟨fd9, F9⟩ := c.def_ 9 (d := dd9) rfl
  obtain ⟨⟨oc9, od9, dV9, kV9, doc9, pm9, an9, cdv9, ct9, osl9, eq9, lo9, co9, df9, kw9⟩, kp9⟩ := F9
  subst eq9
  obtain rfl := dflv_nil df9
  obtain ⟨fd10, F10⟩ := c.def_ 10 (d := dd10) rfl
  obtain ⟨⟨oc10, od10, dV10, kV10, doc10, pm10, an10, cdv10, ct10, osl10, eq10, lo10, co10, df10, kw10⟩, kp10⟩ := F10
  subst eq10
  obtain rfl := dflv_nil df10
  obtain ⟨fd11, F11⟩ := c.def_ 11 (d := dd11) rfl
  obtain ⟨⟨oc11, od11, dV11, kV11, doc11, pm11, an11, cdv11, ct11, osl11, eq11, lo11, co11, df11, kw11⟩, kp11⟩ := F11
  subst eq11
  obtain rfl := dflv_nil df11
  obtain ⟨fd12, F12⟩ := c.def_ 12 (d := dd12) rfl
  obtain ⟨⟨oc12, od12, dV12, kV12, doc12, pm12, an12, cdv12, ct12, osl12, eq12, lo12, co12, df12, kw12⟩, kp12⟩ := F12
  subst eq12
  obtain rfl := dflv_nil df12
  obtain ⟨fd13, F13⟩ := c.def_ 13 (d := dd13) rfl
  obtain ⟨⟨oc13, od13, dV13, kV13, doc13, pm13, an13, cdv13, ct13, osl13, eq13, lo13, co13, df13, kw13⟩, kp13⟩ := F13
  subst eq13
  obtain rfl := dflv_nil df13
  obtain ⟨fd14, F14⟩ := c.def_ 14 (d := dd14) rfl
  obtain ⟨⟨oc14, od14, dV14, kV14, doc14, pm14, an14, cdv14, ct14, osl14, eq14, lo14, co14, df14, kw14⟩, kp14⟩ := F14
  subst eq14
  obtain rfl := dflv_nil df14
  obtain ⟨fd15, F15⟩ := c.def_ 15 (d := dd15) rfl
  obtain ⟨⟨oc15, od15, dV15, kV15, doc15, pm15, an15, cdv15, ct15, osl15, eq15, lo15, co15, df15, kw15⟩, kp15⟩ := F15
  subst eq15
  obtain rfl := dflv_nil df15
  obtain ⟨fd16, F16⟩ := c.def_ 16 (d := dd16) rfl
  obtain ⟨⟨oc16, od16, dV16, kV16, doc16, pm16, an16, cdv16, ct16, osl16, eq16, lo16, co16, df16, kw16⟩, kp16⟩ := F16
  subst eq16
  obtain rfl := dflv_nil df16
  obtain ⟨fd17, F17⟩ := c.def_ 17 (d := dd17) rfl
  obtain ⟨⟨oc17, od17, dV17, kV17, doc17, pm17, an17, cdv17, ct17, osl17, eq17, lo17, co17, df17, kw17⟩, kp17⟩ := F17
  subst eq17
  obtain rfl := dflv_nil df17
  obtain ⟨fd18, F18⟩ := c.def_ 18 (d := dd18) rfl
  obtain ⟨⟨oc18, od18, dV18, kV18, doc18, pm18, an18, cdv18, ct18, osl18, eq18, lo18, co18, df18, kw18⟩, kp18⟩ := F18
  subst eq18
  obtain rfl := dflv_nil df18
  obtain ⟨fd19, F19⟩ := c.def_ 19 (d := dd19) rfl
  obtain ⟨⟨oc19, od19, dV19, kV19, doc19, pm19, an19, cdv19, ct19, osl19, eq19, lo19, co19, df19, kw19⟩, kp19⟩ := F19
  subst eq19
  obtain rfl := dflv_nil df19
  obtain ⟨fd20, F20⟩ := c.def_ 20 (d := dd20) rfl
  obtain ⟨⟨oc20, od20, dV20, kV20, doc20, pm20, an20, cdv20, ct20, osl20, eq20, lo20, co20, df20, kw20⟩, kp20⟩ := F20
  subst eq20
  obtain rfl := dflv_nil df20
  obtain ⟨fd21, F21⟩ := c.def_ 21 (d := dd21) rfl
  obtain ⟨⟨oc21, od21, dV21, kV21, doc21, pm21, an21, cdv21, ct21, osl21, eq21, lo21, co21, df21, kw21⟩, kp21⟩ := F21
  subst eq21
  obtain ⟨dT21, dO21, its21, dN21, rfl, dt21, ds21, dr21⟩ := dflv_ne df21 (List.cons_ne_nil _ _)
  have dr21 : Vals [toV (.int 1)] its21 := dr21
  obtain _ | ⟨rv21_0, dz21_0⟩ := dr21
  obtain _ | _ := dz21_0
  obtain ⟨dK21, rfl, kk21⟩ := kwdv_ne kw21 (List.cons_ne_nil _ _)
  obtain ⟨kwv21_0, dk21_0, dq21_0⟩ := kk21 ("_bounded", toV (.bl true)) (by first | exact List.mem_cons_self | decide)
  obtain ⟨fd22, F22⟩ := c.def_ 22 (d := dd22) rfl
  obtain ⟨⟨oc22, od22, dV22, kV22, doc22, pm22, an22, cdv22, ct22, osl22, eq22, lo22, co22, df22, kw22⟩, kp22⟩ := F22
  subst eq22
  obtain rfl := dflv_nil df22
  obtain ⟨fd23, F23⟩ := c.def_ 23 (d := dd23) rfl
  obtain ⟨⟨oc23, od23, dV23, kV23, doc23, pm23, an23, cdv23, ct23, osl23, eq23, lo23, co23, df23, kw23⟩, kp23⟩ := F23
  subst eq23
  obtain rfl := dflv_nil df23
  obtain ⟨fd24, F24⟩ := c.def_ 24 (d := dd24) rfl
  obtain ⟨⟨oc24, od24, dV24, kV24, doc24, pm24, an24, cdv24, ct24, osl24, eq24, lo24, co24, df24, kw24⟩, kp24⟩ := F24
  subst eq24
  obtain rfl := dflv_nil df24
  obtain ⟨fdIC0, FIC0⟩ := c.def_ 25 (d := ddIC0) rfl
  obtain ⟨⟨ocIC0, odIC0, dVIC0, kVIC0, docIC0, pmIC0, anIC0, cdvIC0, ctIC0, oslIC0, eqIC0, loIC0, coIC0, dfIC0, kwIC0⟩, kpIC0⟩ := FIC0
  subst eqIC0
  obtain rfl := dflv_nil dfIC0
  exact all_mk X G hfa (at_of e0 0 rfl) (at_of e0 1 rfl) (at_of e0 2 rfl) lo0 co0 (at_of e0 3 rfl) (at_of e0 4 rfl) (at_of e0 5 rfl) lo1 co1 (at_of e0 6 rfl) lo2 co2 (at_of e0 7 rfl) (at_of e0 8 rfl) lo3 co3 (at_of e0 9 rfl) (at_of e0 10 rfl) lo4 co4 (at_of e0 11 rfl) (at_of e0 12 rfl) lo5 co5 (at_of e0 13 rfl) (at_of e0 14 rfl) lo6 co6 (at_of e0 15 rfl) (at_of e0 16 rfl) lo7 co7 (at_of e0 17 rfl) (at_of e0 18 rfl) lo8 co8 (at_of e0 19 rfl) (at_of e0 20 rfl) lo9 co9 (at_of e0 21 rfl) (at_of e0 22 rfl) lo10 co10 (at_of e0 23 rfl) (at_of e0 24 rfl) lo11 co11 (at_of e0 25 rfl) (at_of e0 26 rfl) lo12 co12 (at_of e0 27 rfl) (at_of e0 28 rfl) lo13 co13 (at_of e0 29 rfl) (at_of e1 0 rfl) lo14 co14 (at_of e1 1 rfl) (at_of e1 2 rfl) lo15 co15 (at_of e1 3 rfl) (at_of e1 4 rfl) lo16 co16 (at_of e1 5 rfl) (at_of e1 6 rfl) lo17 co17 (at_of e1 7 rfl) (at_of e1 8 rfl) lo18 co18 (at_of e1 9 rfl) (at_of e1 10 rfl) lo19 co19 (at_of e1 11 rfl) (at_of e1 12 rfl) lo20 co20 (at_of e1 13 rfl) (at_of e1 14 rfl) (at_of e1 15 rfl) lo21 co21 dt21 ds21 (.cons rv21_0 .nil) dk21_0 dq21_0 (at_of e1 16 rfl) lo22 co22 (at_of e1 17 rfl) (at_of e1 18 rfl) lo23 co23 (at_of e1 19 rfl) (at_of e1 20 rfl) lo24 co24 (at_of e1 21 rfl) (at_of e1 22 rfl) (at_of e1 23 rfl) (at_of e1 24 rfl) (at_of e1 25 rfl) loIC0 coIC0 (at_of e1 26 rfl) (at_of e1 27 rfl) (at_of e1 28 rfl) (at_of e1 29 rfl) (at_of e2 0 rfl) (at_of e2 1 rfl) (at_of e2 2 rfl) (at_of e2 3 rfl) (at_of e2 4 rfl) (at_of e2 5 rfl) (at_of e2 6 rfl) (at_of e2 7 rfl) (at_of e2 8 rfl) (at_of e2 9 rfl) (at_of e2 10 rfl) (at_of e2 11 rfl) (at_of e2 12 rfl) (at_of e2 13 rfl) (at_of e2 14 rfl) (at_of e2 15 rfl) (at_of e2 16 rfl) (at_of e2 17 rfl) (at_of e2 18 rfl) (at_of e2 19 rfl) (at_of e2 20 rfl) (at_of e2 21 rfl) (at_of e2 22 rfl) (at_of e2 23 rfl) (at_of e2 24 rfl) (at_of e2 25 rfl) (at_of e2 26 rfl) (at_of e2 27 rfl) (at_of e2 28 rfl) (at_of e2 29 rfl) (at_of e3 0 rfl) (at_of e3 1 rfl) (at_of e3 2 rfl) (at_of e3 3 rfl) (at_of e3 4 rfl) (at_of e3 5 rfl) (at_of e3 6 rfl) (He.relB_ok (all_at e3 7 rfl)) (at_of e3 8 rfl) (at_of e3 9 rfl) (at_of e3 10 rfl) (fcB_ok (all_at e3 11 rfl)) (at_of e3 12 rfl) (He.relB_ok (all_at e3 13 rfl)) (at_of e3 14 rfl) (He.relB_ok (all_at e3 15 rfl)) (at_of e3 16 rfl) (at_of e3 17 rfl) (at_of e3 18 rfl) (at_of e3 19 rfl) (at_of e3 20 rfl) (at_of e3 21 rfl) (at_of e3 22 rfl) (at_of e3 23 rfl) (at_of e3 24 rfl) (at_of e3 25 rfl) (at_of e3 26 rfl) (at_of e3 27 rfl) (at_of e3 28 rfl) (at_of e3 29 rfl) (at_of e4 0 rfl) (at_of e4 1 rfl) (at_of e4 2 rfl) (at_of e4 3 rfl) (at_of e4 4 rfl)
end Wf.L10

open PySem PySem.W PySem.Calls PyProof.Rows
set_option maxRecDepth 100000 in
set_option maxHeartbeats 0 in
theorem PySem.Challenge.cw_whosefork_k10_additive_scales_holds : PySem.Challenge.rw_whosefork_k10_additive_scales.Holds := by
  w_on; o_law
  refine HandSHeadRun.head_imp (r := OpenLaw.row PySem.Challenge.rw_whosefork_k10_additive_scales) (q := Wf.L10.qv) (H := Wf.L10.hk) (ob := Wf.L10.ob) (M := 20000) (loose := Wf.L10.names) (d := HandSHeadRun.topDef (OpenLaw.row PySem.Challenge.rw_whosefork_k10_additive_scales).prog 60) (kwd := []) Wf.L10.ob_eq
    Wf.L10.run (by kernel_rfl) (by kernel_rfl) (by kernel_rfl) (by rfl) (by first | assumption | decide +kernel) (by decide +kernel) ⟨rfl, rfl, rfl, rfl, rfl, by decide +kernel⟩ ?hw ?hc
  case hw => w_witness2
  case hc =>
    exact Wf.walk_h (l := PySem.Challenge.rw_whosefork_k10_additive_scales) (n := 63) (k := 16) (x := "_law_script") rfl (by decide) (by kernel_rfl) ⟨rfl, by decide, by decide⟩ (by kernel_rfl) fun w K mg fa h KX G hfa c => Wf.L10.all_h KX G hfa c
#print axioms PySem.Challenge.cw_whosefork_k10_additive_scales_holds
