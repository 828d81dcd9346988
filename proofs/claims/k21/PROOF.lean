import PyProof.Rows.All
import Wide.All
import OpenK.AllK
import Wide.FinOn
import HandS.ForSpec
import HandS.ForMost
import HandS.IsInst
import HandS.CallSlots
import HandS.WideBits
import HandS.Flow
import HandS.TryOnly
import HandS.DictComp
import KE.KEqDict
import PyProof.EqKinds
import HandS.Defaults
import HandS.More
import HandS.Head0
import HandS.Head1
import HandS.Head2
import HandS.HeadEnd
import HandS.EndBits
import HandS.HeadHook1
import HandS.HeadHook2
import HandS.ExcIs
import HandS.Text
import HandS.ExcInit
import HandS.MakeKw
import HandS.List
import HandS.Iter
import HandS.Rev
import HandS.Style
import HandS.Dict
import HandS.Conv
import KE.KDictList
import HandS.Sort
import HandS.SortInts
import HandS.Flt
import HandS.RevTup
import HandS.Codes
import HandS.StrMore
import HandS.Replace
import HandS.ExcField
import KE.KExcIs
import HandS.HotCalls
import PyProof.Rows.StrPadFill
import PySem.Challenge.RW_nearfold_k21_ways
set_option Elab.async false
set_option linter.all false
set_option maxRecDepth 100000
namespace Nf
open PySem PySem.Spec PyProof.Rows L2
/-! further looks at the head's end -/
def chkXF (x f : Str) (K : PySem.W.Frag) : Bool := xfB K (He.ga K x) && decide (PySem.W.findIn K (.ref (He.ga K x)) f = some none)
def strsV : List Value → List Str → Bool
  | [], [] => true
  | .str y _ :: vs, x :: xs => decide (y = x) && strsV vs xs
  | _, _ => false
def chkTup (x : Str) (l : List Str) (K : PySem.W.Frag) : Bool := match PySem.W.nsIn K mainGlobals x with
  | some (some (.ref a)) => (match K.lookup a with
    | some o => decide (o.cls = .type "tuple") && (match o.data with
      | .seq its _ => decide (its.size ≤ 1000) && strsV its.toList l
      | _ => false)
    | none => false)
  | _ => false
end Nf
namespace Nf
open PySem PySem.Spec PyProof.Rows L2
def chkIC (x : Str) (K : PySem.W.Frag) : Bool :=
  decide (PySem.W.findIn K (.ref (He.ga K x)) "__class__" = some (some (.builtin "object.__class__"))) &&
  (decide (PySem.W.specialIn K (.builtin "object.__class__") "__get__" = some (some (.builtin "getset_descriptor.__get__"))) &&
  (decide (PySem.W.takesIn K (.builtin "object.__class__") = some true) &&
  decide (PySem.W.mroIn K (He.ga K x) (.type "object") = some true)))
end Nf

namespace Nf
open PySem PySem.Spec PyProof.Rows L2
def chkX (K : PySem.W.Frag) (x : Str) : Bool :=
  decide (PySem.W.findIn K (.ref (He.ga K x)) "__getattribute__" = some (some (.builtin "BaseException.__getattribute__"))) &&
  (decide (PySem.W.findIn K (.ref (He.ga K x)) "__getattr__" = some none) &&
  (decide (PySem.W.subIn K (.ref (He.ga K x)) (.type "BaseException") = some true) &&
  (PySem.W.hasDictIn K (He.ga K x) &&
  (decide (PySem.W.findIn K (.ref (He.ga K x)) "__class__" = some (some (.builtin "object.__class__"))) &&
  (decide (PySem.W.specialIn K (.builtin "object.__class__") "__get__" = some (some (.builtin "getset_descriptor.__get__"))) &&
  (decide (PySem.W.takesIn K (.builtin "object.__class__") = some true) &&
  decide (PySem.W.mroIn K (He.ga K x) (.type "object") = some true)))))))
def chk0 (K : PySem.W.Frag) (x : Str) : Bool := PySem.W.makesIn K (He.ga K x) && (He.eqO (PySem.W.findIn K (.ref (He.ga K x)) "__init__") (some (some (.builtin "object.__init__"))) && PySem.W.keepIn K (.ref (He.ga K x)))
def oexIn (K : PySem.W.Frag) (C : Addr) : Bool := match K.lookup C with
  | some ⟨.type "type", _, .cls cd, sl⟩ => (match cd.mro, sl.toList with
    | .ref C' :: bm, [_, _, _, _, some (.builtin n), _] => C' == C && n == "ValueError.__new__" && !cd.hasDel && cd.hasDict && PySem.HandSPX.refsVE bm
    | _, _ => false)
  | _ => false
def chkO (K : PySem.W.Frag) (x f : Str) : Bool :=
  oexIn K (He.ga K x) &&
  (decide (PySem.W.findIn K (.ref (He.ga K x)) "__setattr__" = some (some (.builtin "object.__setattr__"))) &&
  (decide (PySem.W.subIn K (.ref (He.ga K x)) (.type "BaseException") = some true) &&
  (decide (PySem.W.typeIn K (.ref (He.ga K x)) = some (.type "type")) &&
  (PySem.W.keepIn K (.ref (He.ga K x)) &&
  (decide (PySem.W.findIn K (.ref (He.ga K x)) "__init__" = some (some (.ref (He.ma K (He.ga K x) "__init__")))) &&
  (decide (PySem.W.typeIn K (.ref (He.ma K (He.ga K x) "__init__")) = some (.type "function")) &&
  decide (PySem.W.findIn K (.ref (He.ga K x)) f = some none)))))))
/-- further facts: a class is made without an __init__; what isinstance tells of a caught exception; what it asks of its class -/
inductive Nx where
  | mk0 (x : Str) | kix (x y : Str) (b : Bool) | kib (x : Str) (t : String) (b : Bool) | exo (x : Str) | oxc (x f : Str) | gen (f : PySem.W.Frag → Bool)
def chkN (K : PySem.W.Frag) : Nx → Bool
  | .mk0 x => chk0 K x
  | .kix x y b => decide (PySem.W.kitOne K (.ref (He.ga K x)) (.ref (He.ga K y)) = some b)
  | .kib x t b => decide (PySem.W.kitOne K (.ref (He.ga K x)) (.type t) = some b)
  | .exo x => chkX K x
  | .oxc x f => chkO K x f
  | .gen f => f K
def SaysN (fa : List He.Fa) (fn : List He.DefD) (ex : List Nx) (K : PySem.W.Frag) : Prop := He.SaysD fa fn K ∧ ex.all (chkN K) = true
def obsN (n : Nat) (fa : List He.Fa) (fn : List He.DefD) (ex : List Nx) (g : Addr → Option Obj) : He.AlD × Bool := (He.obsDG n fa fn g, ex.all (chkN (He.frG g (He.asD g n))))
def hookN (n : Nat) (fa : List He.Fa) (fn : List He.DefD) (ex : List Nx) : PySem.W.Hook where
  α := He.AlD × Bool
  obs := fun s => obsN n fa fn ex s.heap.get?
  val := fun _ => (He.valD fn, true)
  says := fun _ h => ∃ K : PySem.W.Frag, K.In h ∧ SaysN fa fn ex K
  of := fun _ _ e => ⟨_, He.frG_in, congrArg Prod.fst e, congrArg Prod.snd e⟩
  keeps := fun _ _ _ ⟨K, hK, c⟩ k => ⟨K, PySem.W.Frag.In.keeps hK k, c⟩
theorem obsN_eq {n : Nat} {fa : List He.Fa} {fn : List He.DefD} {ex : List Nx} {g : Addr → Option Obj} {s : Shared} (h : ∀ a, g a = s.heap.get? a) : obsN n fa fn ex g = (hookN n fa fn ex).obs s := by
  have e : g = s.heap.get? := funext h
  rw [e]
  rfl
end Nf
namespace Nf.W
open PySem PySem.Spec PyProof.Rows L2 Nf
def topS (i : Nat) : Stmt := PySem.Challenge.pw_nearfold_k21_ways.main.body.getD i (.Pass ⟨0, 0, 0, 0⟩)
abbrev s_way_of : Stmt := topS 21
abbrev N_way_of : List Str := ["word"]
theorem sc_way_of : FnScope N_way_of ["word"] (defScope s_way_of) := ⟨rfl, rfl, rfl, by decide +kernel, rfl, by decide +kernel, by decide +kernel⟩
abbrev s__law_cell : Stmt := topS 23
abbrev N__law_cell : List Str := ["_law_script", "_law_k"]
theorem sc__law_cell : FnScope N__law_cell ["_law_script", "_law_k"] (defScope s__law_cell) := ⟨rfl, rfl, rfl, by decide +kernel, rfl, by decide +kernel, by decide +kernel⟩
abbrev s__law_goes : Stmt := topS 24
abbrev N__law_goes : List Str := ["_law_word", "_law_sign", "_law_odd", "_law_side"]
theorem sc__law_goes : FnScope N__law_goes ["_law_word", "_law_sign", "_law_odd", "_law_side"] (defScope s__law_goes) := ⟨rfl, rfl, rfl, by decide +kernel, rfl, by decide +kernel, by decide +kernel⟩
abbrev s__law_ends : Stmt := topS 25
abbrev N__law_ends : List Str := ["_law_word", "_law_sign"]
theorem sc__law_ends : FnScope N__law_ends ["_law_word", "_law_sign"] (defScope s__law_ends) := ⟨rfl, rfl, rfl, by decide +kernel, rfl, by decide +kernel, by decide +kernel⟩
abbrev s__law_as_told : Stmt := topS 26
abbrev N__law_as_told : List Str := ["_law_way", "_law_word", "_law_sign", "_law_odd", "_law_side", "_law_found"]
theorem sc__law_as_told : FnScope N__law_as_told ["_law_way", "_law_word", "_law_sign", "_law_odd", "_law_side"] (defScope s__law_as_told) := ⟨rfl, rfl, rfl, by decide +kernel, rfl, by decide +kernel, by decide +kernel⟩
abbrev s__law_made : Stmt := topS 27
abbrev N__law_made : List Str := ["_law_script", "_law_words", "_law_word", "_law_place", "_law_signs", "_law_sign", "_law_way"]
theorem sc__law_made : FnScope N__law_made ["_law_script", "_law_words"] (defScope s__law_made) := ⟨rfl, rfl, rfl, by decide +kernel, rfl, by decide +kernel, by decide +kernel⟩
abbrev s__law_refused : Stmt := topS 28
abbrev N__law_refused : List Str := ["_law_thing", "_law_told", "e", "_law_others"]
theorem sc__law_refused : FnScope N__law_refused ["_law_thing"] (defScope s__law_refused) := ⟨rfl, rfl, rfl, by decide +kernel, rfl, by decide +kernel, by decide +kernel⟩
abbrev s__law_kinds : Stmt := topS 29
abbrev N__law_kinds : List Str := []
theorem sc__law_kinds : FnScope N__law_kinds [] (defScope s__law_kinds) := ⟨rfl, rfl, rfl, by decide +kernel, rfl, by decide +kernel, by decide +kernel⟩
abbrev s_law : Stmt := topS 30
abbrev N_law : List Str := ["_law_script", "_law_sign", "_law_odd", "_law_side", "_law_words", "_law_made_here", "_law_k", "_law_word", "_law_thing"]
theorem sc_law : FnScope N_law ["_law_script"] (defScope s_law) := ⟨rfl, rfl, rfl, by decide +kernel, rfl, by decide +kernel, by decide +kernel⟩
abbrev s_Even_goes_on : Stmt := inClass (topS 16) 0
abbrev N_Even_goes_on : List Str := ["self", "sign", "odd", "side"]
theorem sc_Even_goes_on : FnScope N_Even_goes_on ["self", "sign", "odd", "side"] (defScope s_Even_goes_on) := ⟨rfl, rfl, rfl, by decide +kernel, rfl, by decide +kernel, by decide +kernel⟩
abbrev s_Off_goes_on : Stmt := inClass (topS 17) 0
abbrev N_Off_goes_on : List Str := ["self", "sign", "odd", "side"]
theorem sc_Off_goes_on : FnScope N_Off_goes_on ["self", "sign", "odd", "side"] (defScope s_Off_goes_on) := ⟨rfl, rfl, rfl, by decide +kernel, rfl, by decide +kernel, by decide +kernel⟩
abbrev s_Way_goes_on : Stmt := inClass (topS 15) 0
abbrev N_Way_goes_on : List Str := ["self", "sign", "odd", "side"]
theorem sc_Way_goes_on : FnScope N_Way_goes_on ["self", "sign", "odd", "side"] (defScope s_Way_goes_on) := ⟨rfl, rfl, rfl, by decide +kernel, rfl, by decide +kernel, by decide +kernel⟩
abbrev s_Up_goes_on : Stmt := inClass (topS 19) 0
abbrev N_Up_goes_on : List Str := ["self", "sign", "odd", "side"]
theorem sc_Up_goes_on : FnScope N_Up_goes_on ["self", "sign", "odd", "side"] (defScope s_Up_goes_on) := ⟨rfl, rfl, rfl, by decide +kernel, rfl, by decide +kernel, by decide +kernel⟩
abbrev s_Down_goes_on : Stmt := inClass (topS 20) 0
abbrev N_Down_goes_on : List Str := ["self", "sign", "odd", "side"]
theorem sc_Down_goes_on : FnScope N_Down_goes_on ["self", "sign", "odd", "side"] (defScope s_Down_goes_on) := ⟨rfl, rfl, rfl, by decide +kernel, rfl, by decide +kernel, by decide +kernel⟩
abbrev s_Even_ends : Stmt := inClass (topS 16) 1
abbrev N_Even_ends : List Str := ["self", "sign"]
theorem sc_Even_ends : FnScope N_Even_ends ["self", "sign"] (defScope s_Even_ends) := ⟨rfl, rfl, rfl, by decide +kernel, rfl, by decide +kernel, by decide +kernel⟩
abbrev s_Off_ends : Stmt := inClass (topS 17) 1
abbrev N_Off_ends : List Str := ["self", "sign"]
theorem sc_Off_ends : FnScope N_Off_ends ["self", "sign"] (defScope s_Off_ends) := ⟨rfl, rfl, rfl, by decide +kernel, rfl, by decide +kernel, by decide +kernel⟩
abbrev s_Way_ends : Stmt := inClass (topS 15) 1
abbrev N_Way_ends : List Str := ["self", "sign"]
theorem sc_Way_ends : FnScope N_Way_ends ["self", "sign"] (defScope s_Way_ends) := ⟨rfl, rfl, rfl, by decide +kernel, rfl, by decide +kernel, by decide +kernel⟩
abbrev s_Up_ends : Stmt := inClass (topS 19) 1
abbrev N_Up_ends : List Str := ["self", "sign"]
theorem sc_Up_ends : FnScope N_Up_ends ["self", "sign"] (defScope s_Up_ends) := ⟨rfl, rfl, rfl, by decide +kernel, rfl, by decide +kernel, by decide +kernel⟩
abbrev s_Down_ends : Stmt := inClass (topS 20) 1
abbrev N_Down_ends : List Str := ["self", "sign"]
theorem sc_Down_ends : FnScope N_Down_ends ["self", "sign"] (defScope s_Down_ends) := ⟨rfl, rfl, rfl, by decide +kernel, rfl, by decide +kernel, by decide +kernel⟩
def d_way_of : He.DefD := ⟨("way_of", none), "way_of", "way_of", defArgs s_way_of, defBody s_way_of, defScope s_way_of, [], []⟩
def d__law_cell : He.DefD := ⟨("_law_cell", none), "_law_cell", "_law_cell", defArgs s__law_cell, defBody s__law_cell, defScope s__law_cell, [], []⟩
def d__law_goes : He.DefD := ⟨("_law_goes", none), "_law_goes", "_law_goes", defArgs s__law_goes, defBody s__law_goes, defScope s__law_goes, [], []⟩
def d__law_ends : He.DefD := ⟨("_law_ends", none), "_law_ends", "_law_ends", defArgs s__law_ends, defBody s__law_ends, defScope s__law_ends, [], []⟩
def d__law_as_told : He.DefD := ⟨("_law_as_told", none), "_law_as_told", "_law_as_told", defArgs s__law_as_told, defBody s__law_as_told, defScope s__law_as_told, [], []⟩
def d__law_made : He.DefD := ⟨("_law_made", none), "_law_made", "_law_made", defArgs s__law_made, defBody s__law_made, defScope s__law_made, [], []⟩
def d__law_refused : He.DefD := ⟨("_law_refused", none), "_law_refused", "_law_refused", defArgs s__law_refused, defBody s__law_refused, defScope s__law_refused, [], []⟩
def d__law_kinds : He.DefD := ⟨("_law_kinds", none), "_law_kinds", "_law_kinds", defArgs s__law_kinds, defBody s__law_kinds, defScope s__law_kinds, [], []⟩
def d_law : He.DefD := ⟨("law", none), "law", "law", defArgs s_law, defBody s_law, defScope s_law, [], []⟩
def dm_Even_goes_on : He.DefD := ⟨("Even", some "goes_on"), "goes_on", "Even.goes_on", defArgs s_Even_goes_on, defBody s_Even_goes_on, defScope s_Even_goes_on, [], []⟩
def dm_Off_goes_on : He.DefD := ⟨("Off", some "goes_on"), "goes_on", "Off.goes_on", defArgs s_Off_goes_on, defBody s_Off_goes_on, defScope s_Off_goes_on, [], []⟩
def dm_In_goes_on : He.DefD := ⟨("In", some "goes_on"), "goes_on", "Way.goes_on", defArgs s_Way_goes_on, defBody s_Way_goes_on, defScope s_Way_goes_on, [], []⟩
def dm_Up_goes_on : He.DefD := ⟨("Up", some "goes_on"), "goes_on", "Up.goes_on", defArgs s_Up_goes_on, defBody s_Up_goes_on, defScope s_Up_goes_on, [], []⟩
def dm_Down_goes_on : He.DefD := ⟨("Down", some "goes_on"), "goes_on", "Down.goes_on", defArgs s_Down_goes_on, defBody s_Down_goes_on, defScope s_Down_goes_on, [], []⟩
def dm_Even_ends : He.DefD := ⟨("Even", some "ends"), "ends", "Even.ends", defArgs s_Even_ends, defBody s_Even_ends, defScope s_Even_ends, [], []⟩
def dm_Off_ends : He.DefD := ⟨("Off", some "ends"), "ends", "Off.ends", defArgs s_Off_ends, defBody s_Off_ends, defScope s_Off_ends, [], []⟩
def dm_In_ends : He.DefD := ⟨("In", some "ends"), "ends", "Way.ends", defArgs s_Way_ends, defBody s_Way_ends, defScope s_Way_ends, [], []⟩
def dm_Up_ends : He.DefD := ⟨("Up", some "ends"), "ends", "Up.ends", defArgs s_Up_ends, defBody s_Up_ends, defScope s_Up_ends, [], []⟩
def dm_Down_ends : He.DefD := ⟨("Down", some "ends"), "ends", "Down.ends", defArgs s_Down_ends, defBody s_Down_ends, defScope s_Down_ends, [], []⟩
def fn : List He.DefD := [d_way_of, d__law_cell, d__law_goes, d__law_ends, d__law_as_told, d__law_made, d__law_refused, d__law_kinds, d_law, dm_Even_goes_on, dm_Off_goes_on, dm_In_goes_on, dm_Up_goes_on, dm_Down_goes_on, dm_Even_ends, dm_Off_ends, dm_In_ends, dm_Up_ends, dm_Down_ends]
def ex : List Nx := (([.mk0 "Even", .mk0 "Off", .mk0 "In", .mk0 "Up", .mk0 "Down", .exo "NoWay", .kix "Down" "Down" true, .kix "Down" "Even" false, .kix "Down" "In" false, .kix "Down" "Off" false, .kix "Down" "Up" false, .kix "Down" "Way" true, .kix "Even" "Down" false, .kix "Even" "Even" true, .kix "Even" "In" false, .kix "Even" "Off" false, .kix "Even" "Up" false, .kix "Even" "Way" true, .kix "In" "Down" false, .kix "In" "Even" false] : List Nx) ++ (([.kix "In" "In" true, .kix "In" "Off" false, .kix "In" "Up" false, .kix "In" "Way" true, .kix "Off" "Down" false, .kix "Off" "Even" false, .kix "Off" "In" false, .kix "Off" "Off" true, .kix "Off" "Up" false, .kix "Off" "Way" true, .kix "Up" "Down" false, .kix "Up" "Even" false, .kix "Up" "In" false, .kix "Up" "Off" false, .kix "Up" "Up" true, .kix "Up" "Way" true, .gen (chkIC "Down"), .gen (chkIC "Even"), .gen (chkIC "In"), .gen (chkIC "Off")] : List Nx) ++ (([.gen (chkIC "Up"), .kix "NoWay" "NoBits" false, .kix "NoWay" "NoFlags" false, .kix "NoWay" "NoName" false, .kix "NoWay" "NoNumber" false, .kix "NoWay" "NoParts" false, .kix "NoWay" "NoRow" false, .kix "NoWay" "NoShape" false, .kix "NoWay" "NoStep" false, .kix "NoWay" "NoText" false, .kix "NoWay" "NoWay" true, .kix "NoWay" "NoWhole" false, .kix "NoWay" "NoWord" false, .kib "NoWay" "ValueError" true] : List Nx))))
def fa : List He.Fa := (([.glo "way_of", .glo "_law_cell", .glo "_law_goes", .glo "_law_ends", .glo "_law_as_told", .glo "_law_made", .glo "_law_refused", .glo "_law_kinds", .glo "law", .glo "NoWay", .exc "NoWay", .glo "Down", .glo "Even", .glo "FoldError", .glo "In", .glo "NoBits", .glo "NoFlags", .glo "NoName", .glo "NoNumber", .glo "NoParts"] : List He.Fa) ++ (([.glo "NoRow", .glo "NoShape", .glo "NoStep", .glo "NoText", .glo "NoWhole", .glo "NoWord", .glo "Off", .glo "Up", .glo "Way", .exm "NoWay" "FoldError" true, .free "ValueError", .free "bool", .free "isinstance", .free "len", .free "range", .glo "Down", .cls "Down", .glo "Even", .cls "Even", .glo "In"] : List He.Fa) ++ (([.cls "In", .glo "Off", .cls "Off", .glo "Up", .cls "Up", .meth "Even" "goes_on", .meth "Off" "goes_on", .meth "In" "goes_on", .meth "Up" "goes_on", .meth "Down" "goes_on", .meth "Even" "ends", .meth "Off" "ends", .meth "In" "ends", .meth "Up" "ends", .meth "Down" "ends"] : List He.Fa))))
section
/-! ### the head -/
set_option maxHeartbeats 8000000
def loose : List Str := ((["FoldError", "NoShape", "NoBits", "NoParts", "NoNumber", "NoWay", "NoFlags", "NoWhole", "NoStep", "NoWord", "NoText", "NoName", "NoRow", "Way", "Even", "Off", "In", "Up", "Down", "way_of"] : List Str) ++ ((["_law_cell", "_law_goes", "_law_ends", "_law_as_told", "_law_made", "_law_refused", "_law_kinds"] : List Str)))
abbrev RO : PySem.W.OpenRow := PySem.W.OpenLaw.row PySem.Challenge.rw_nearfold_k21_ways
abbrev hk : PySem.W.Hook := hookN 6 fa fn ex
def ob (s : PySem.W.SharedT) : He.AlD × Bool := obsN 6 fa fn ex (HandSHeadRun.getT s)
theorem ob_eq (s : PySem.W.SharedT) : ob s = hk.obs s.abs := obsN_eq (HandSHeadRun.getT_eq s)
theorem run (w : World) : HandSHeadRun.RunEq RO (PySem.W.view RO.prog [30]) hk ob 16000 loose w := by
  intro os
  kernel_rfl
end
end Nf.W
/-! Nf: plain values, what they stand for, and the rules of the hand layer said of plain functions. -/
namespace Nf
open PySem PySem.Spec PyProof.Rows L2

inductive PV where
  | non | bl (b : Bool) | int (i : Int) | str (x : Str) | tup (l : List PV) | lst (l : List PV) | ins (c : Str) | exn (c : Str) (fs : List PV) | dct (ks : List Key) (l : List PV)

/-- an exception: its class, the one field that it may hold -/
structure PX where
  c : Str
  d : Option (Str × PV) := none

/-- an exception that was caught: its class, its dict -/
def exHO (cls : Value) (a : Addr) (d : Option Addr) : HO := .ext fun h => ∃ o, h.get? a = some o ∧ Zc cls d o ∧ ∃ vs, o.data = .fields vs
mutual
/-- the value v is the plain value p, by the frozen heap F -/
def Rp (K : PySem.W.Frag) (mg : Str → Option Value) (F : Hp) : PV → V → Prop
  | .non, v => v = .non
  | .bl b, v => v = .bl b
  | .int i, v => v = .int i
  | .str x, v => v = .str x
  | .tup l, v => ∃ a vs, v = .ref a ∧ SqT K F a vs ∧ Rps K mg F l vs
  | .lst l, v => ∃ a vs, v = .ref a ∧ SqL K F a vs ∧ Rps K mg F l vs
  | .ins c, v => ∃ a C dx, v = .ref a ∧ F a = some (.ins C dx []) ∧ mg c = some (.ref C)
  | .dct ks l, v => ∃ a us, v = .ref a ∧ F a = some (.dK (ks.zip us)) ∧ us.length = ks.length ∧ Rps K mg F l us
  | .exn c fs, v => ∃ a D d us, v = .ref a ∧ F a = some (exHO (.ref D) a d) ∧ mg c = some (.ref D) ∧ Rps K mg F fs us ∧ ((us = [] ∧ d = none) ∨ ∃ f u dd, us = [.str f, u] ∧ d = some dd ∧ F dd = some (.xd [(f, u)]))
def Rps (K : PySem.W.Frag) (mg : Str → Option Value) (F : Hp) : List PV → List V → Prop
  | [], vs => vs = []
  | p :: ps, vs => ∃ v r, vs = v :: r ∧ Rp K mg F p v ∧ Rps K mg F ps r
end

section
variable {K : PySem.W.Frag} {mg : Str → Option Value} {F F' F1 H H' H1 : Hp}

theorem sql_mono {a : Addr} {vs : List V} (e : Same F F') (h : SqL K F a vs) : SqL K F' a vs := by
  rcases h with (h | ⟨o, h⟩) | h
  · exact .inl (.inl (e _ _ h))
  · exact .inl (.inr ⟨o, e _ _ h⟩)
  · exact .inr h
theorem sqt_mono {a : Addr} {vs : List V} (e : Same F F') (h : SqT K F a vs) : SqT K F' a vs := by
  rcases h with (h | ⟨o, h⟩) | h
  · exact .inl (.inl (e _ _ h))
  · exact .inl (.inr ⟨o, e _ _ h⟩)
  · exact .inr h

mutual
theorem Rp.mono (e : Same F F') : ∀ (p : PV) {v : V}, Rp K mg F p v → Rp K mg F' p v
  | .non, _, h => by simpa only [Rp] using h
  | .bl _, _, h => by simpa only [Rp] using h
  | .int _, _, h => by simpa only [Rp] using h
  | .str _, _, h => by simpa only [Rp] using h
  | .tup l, _, h => by
    simp only [Rp] at h ⊢
    obtain ⟨a, vs, e1, h1, h2⟩ := h
    exact ⟨a, vs, e1, sqt_mono e h1, Rps.mono e l h2⟩
  | .lst l, _, h => by
    simp only [Rp] at h ⊢
    obtain ⟨a, vs, e1, h1, h2⟩ := h
    exact ⟨a, vs, e1, sql_mono e h1, Rps.mono e l h2⟩
  | .ins c, _, h => by
    simp only [Rp] at h ⊢
    obtain ⟨a, C, dx, e1, h1, h2⟩ := h
    exact ⟨a, C, dx, e1, e _ _ h1, h2⟩
  | .dct ks l, _, h => by
    simp only [Rp] at h ⊢
    obtain ⟨a, us, e1, h1, h2, h3⟩ := h
    exact ⟨a, us, e1, e _ _ h1, h2, Rps.mono e l h3⟩
  | .exn c fs, _, h => by
    simp only [Rp] at h ⊢
    obtain ⟨a, D, d, us, e1, h1, h2, h3, h4⟩ := h
    refine ⟨a, D, d, us, e1, e _ _ h1, h2, Rps.mono e fs h3, ?_⟩
    rcases h4 with h4 | ⟨f, u, dd, g1, g2, g3⟩
    · exact .inl h4
    · exact .inr ⟨f, u, dd, g1, g2, e _ _ g3⟩
theorem Rps.mono (e : Same F F') : ∀ (ps : List PV) {vs : List V}, Rps K mg F ps vs → Rps K mg F' ps vs
  | [], _, h => by simpa only [Rps] using h
  | p :: ps, _, h => by
    simp only [Rps] at h ⊢
    obtain ⟨v, r, e1, h1, h2⟩ := h
    exact ⟨v, r, e1, Rp.mono e p h1, Rps.mono e ps h2⟩
end

theorem Rps.len : ∀ {ps : List PV} {vs : List V}, Rps K mg F ps vs → vs.length = ps.length
  | [], _, h => by simp only [Rps] at h; rw [h]; rfl
  | p :: ps, _, h => by
    simp only [Rps] at h
    obtain ⟨v, r, rfl, _, h2⟩ := h
    simp only [List.length_cons, Rps.len h2]
theorem Rps.get : ∀ {ps : List PV} {vs : List V} {i : Nat} {p : PV}, Rps K mg F ps vs → ps[i]? = some p → ∃ v, vs[i]? = some v ∧ Rp K mg F p v
  | [], _, _, _, _, e => by simp at e
  | q :: ps, _, 0, p, h, e => by
    simp only [Rps] at h
    obtain ⟨v, r, rfl, h1, _⟩ := h
    simp only [List.getElem?_cons_zero, Option.some.injEq] at e
    subst e
    exact ⟨v, rfl, h1⟩
  | q :: ps, _, i + 1, p, h, e => by
    simp only [Rps] at h
    obtain ⟨v, r, rfl, _, h2⟩ := h
    simp only [List.getElem?_cons_succ] at e
    obtain ⟨v', e1, h3⟩ := Rps.get h2 e
    exact ⟨v', by simpa using e1, h3⟩
theorem Rps.app : ∀ {ps qs : List PV} {vs us : List V}, Rps K mg F ps vs → Rps K mg F qs us → Rps K mg F (ps ++ qs) (vs ++ us)
  | [], _, _, _, h, g => by simp only [Rps] at h; rw [h]; exact g
  | p :: ps, qs, _, us, h, g => by
    simp only [Rps] at h
    obtain ⟨v, r, rfl, h1, h2⟩ := h
    simp only [List.cons_append, Rps]
    exact ⟨v, r ++ us, rfl, h1, Rps.app h2 g⟩
theorem Rps.one {p : PV} {v : V} (h : Rp K mg F p v) : Rps K mg F [p] [v] := by
  simp only [Rps]
  exact ⟨v, [], rfl, h, rfl⟩
theorem Rps.drop : ∀ {ps : List PV} {vs : List V} (n : Nat), Rps K mg F ps vs → Rps K mg F (ps.drop n) (vs.drop n)
  | _, _, 0, h => h
  | [], _, n + 1, h => by simp only [Rps] at h; subst h; simp only [List.drop_nil, Rps]
  | p :: ps, _, n + 1, h => by
    simp only [Rps] at h
    obtain ⟨v, r, rfl, _, h2⟩ := h
    simpa using Rps.drop n h2
theorem Rps.take : ∀ {ps : List PV} {vs : List V} (n : Nat), Rps K mg F ps vs → Rps K mg F (ps.take n) (vs.take n)
  | _, _, 0, h => by simp only [List.take_zero, Rps]
  | [], _, n + 1, h => by simp only [Rps] at h; subst h; simp only [List.take_nil, Rps]
  | p :: ps, _, n + 1, h => by
    simp only [Rps] at h
    obtain ⟨v, r, rfl, h1, h2⟩ := h
    simp only [List.take_succ_cons, Rps]
    exact ⟨v, _, rfl, h1, Rps.take n h2⟩
theorem Rps.set : ∀ {ps : List PV} {vs : List V} (n : Nat) {p : PV} {v : V}, Rps K mg F ps vs → Rp K mg F p v → Rps K mg F (ps.set n p) (vs.set n v)
  | [], _, n, _, _, h, _ => by simp only [Rps] at h; subst h; simp only [List.set_nil, Rps]
  | q :: ps, _, 0, p, v, h, g => by
    simp only [Rps] at h
    obtain ⟨u, r, rfl, _, h2⟩ := h
    simp only [List.set_cons_zero, Rps]
    exact ⟨v, r, rfl, g, h2⟩
  | q :: ps, _, n + 1, p, v, h, g => by
    simp only [Rps] at h
    obtain ⟨u, r, rfl, h1, h2⟩ := h
    simp only [List.set_cons_succ, Rps]
    exact ⟨u, _, rfl, h1, Rps.set n h2 g⟩

/-- the frozen part F of H has grown to F' of H'; what was tracked beside it stays beside it -/
structure Ext (F H F' H' : Hp) : Prop where
  f : Same F F'
  h : Same H H'
  w : Same F' H'
  sep : ∀ a, F a = none → H a ≠ none → F' a = none
theorem Ext.refl (w : Same F H) : Ext F H F H := ⟨Same.refl F, Same.refl H, w, fun _ e _ => e⟩
theorem Ext.trans (a : Ext F H F1 H1) (b : Ext F1 H1 F' H') : Ext F H F' H' where
  f := a.f.trans b.f
  h := a.h.trans b.h
  w := b.w
  sep := fun x e n => b.sep x (a.sep x e n) (by
    cases q : H x with
    | none => exact absurd q n
    | some o => rw [a.h _ _ q]; exact fun z => nomatch z)
theorem same_upd {p : Addr} {o : HO} (h : H p = none) : Same H (upd H p o) := fun b x e => by
  rw [upd_ne (ne_of_none e h)]
  exact e
theorem same_both {p : Addr} {o : HO} (w : Same F H) : Same (upd F p o) (upd H p o) := fun b x e => by
  by_cases hb : b = p
  · subst hb; rw [upd_same] at e ⊢; exact e
  · rw [upd_ne hb] at e ⊢; exact w _ _ e
theorem Ext.new {p : Addr} {o : HO} (w : Same F H) (h : H p = none) : Ext F H (upd F p o) (upd H p o) where
  f := same_upd (w.free h)
  h := same_upd h
  w := same_both w
  sep := fun a e n => by
    by_cases ha : a = p
    · subst ha; exact absurd h n
    · rw [upd_ne ha]; exact e
end

/-- a name's place: nothing, a plain value, or a list that nobody else holds -/
inductive Slot where
  | none | val (p : PV) | ow (d : Option (List Key)) (l : List PV)
abbrev Lo := List Slot
/-- .. a list; a dict with these keys -/
abbrev Slot.own (l : List PV) : Slot := .ow .none l
abbrev Slot.owd (ks : List Key) (l : List PV) : Slot := .ow (some ks) l
def hoOf (d : Option (List Key)) (vs : List V) : HO := match d with
  | .none => .lst vs
  | some ks => .dK (ks.zip vs)
def dLen (d : Option (List Key)) (n : Nat) : Prop := match d with
  | .none => True
  | some ks => n = ks.length
def frzOf (d : Option (List Key)) (l : List PV) : PV := match d with
  | .none => .lst l
  | some ks => .dct ks l

/-- the state of a body: G are the frozen heap and the heap at its entry -/
structure BR (K : PySem.W.Frag) (mg : Str → Option Value) (G : Hp × Hp) (F H : Hp) (σ : L2.St) (env : Lo) : Prop where
  ext : Ext G.1 G.2 F H
  len : σ.length = env.length
  val : ∀ (i : Nat) (p : PV), env[i]? = some (Slot.val p) → ∃ v, σ[i]? = some (some v) ∧ Rp K mg F p v
  own : ∀ (i : Nat) (d : Option (List Key)) (l : List PV), env[i]? = some (Slot.ow d l) → ∃ a vs, σ[i]? = some (some (.ref a)) ∧ G.2 a = none ∧ F a = none ∧ H a = some (hoOf d vs) ∧ Rps K mg F l vs ∧ dLen d vs.length
  sep : ∀ (i j : Nat) (d d' : Option (List Key)) (l l' : List PV) (a : Addr), env[i]? = some (Slot.ow d l) → env[j]? = some (Slot.ow d' l') → σ[i]? = some (some (.ref a)) → σ[j]? = some (some (.ref a)) → i = j
section
variable {K : PySem.W.Frag} {mg : Str → Option Value} {G : Hp × Hp} {F F' H H' : Hp} {σ : L2.St} {env : Lo}
theorem BR.mono (b : BR K mg G F H σ env) (e : Ext F H F' H') : BR K mg G F' H' σ env where
  ext := b.ext.trans e
  len := b.len
  val := fun i p h => let ⟨v, h1, h2⟩ := b.val i p h; ⟨v, h1, h2.mono e.f⟩
  own := fun i d l h => by
    obtain ⟨a, vs, h1, h2, h3, h4, h5, h6⟩ := b.own i d l h
    exact ⟨a, vs, h1, h2, e.sep a h3 (by rw [h4]; exact fun z => nomatch z), e.h _ _ h4, h5.mono e.f, h6⟩
  sep := b.sep
theorem BR.w (b : BR K mg G F H σ env) : Same F H := b.ext.w
/-- a name takes a plain value -/
theorem BR.set (b : BR K mg G F H σ env) {i : Nat} {p : PV} {v : V} (h : Rp K mg F p v) : BR K mg G F H (σ.set i (some v)) (env.set i (Slot.val p)) where
  ext := b.ext
  len := by rw [List.length_set, List.length_set]; exact b.len
  val := fun j q e => by
    by_cases hj : i = j
    · subst hj
      rw [List.getElem?_set] at e
      rw [List.getElem?_set]
      simp only [if_true] at e ⊢
      split at e
      · rename_i hl
        cases e
        exact ⟨v, by rw [if_pos (by rw [b.len]; exact hl)], h⟩
      · cases e
    · rw [List.getElem?_set_ne hj] at e ⊢
      exact b.val j q e
  own := fun j d l e => by
    by_cases hj : i = j
    · subst hj
      rw [List.getElem?_set] at e
      simp only [if_true] at e
      split at e <;> cases e
    · rw [List.getElem?_set_ne hj] at e ⊢
      exact b.own j d l e
  sep := fun j k d d' l l' a e1 e2 e3 e4 => by
    have hj : i ≠ j := fun z => by
      subst z
      rw [List.getElem?_set] at e1
      simp only [if_true] at e1
      split at e1 <;> cases e1
    have hk : i ≠ k := fun z => by
      subst z
      rw [List.getElem?_set] at e2
      simp only [if_true] at e2
      split at e2 <;> cases e2
    rw [List.getElem?_set_ne hj] at e1 e3
    rw [List.getElem?_set_ne hk] at e2 e4
    exact b.sep j k d d' l l' a e1 e2 e3 e4
/-- a name takes a new list of its own -/
theorem BR.setOw (b : BR K mg G F H σ env) {i : Nat} {d : Option (List Key)} {l : List PV} {a : Addr} {vs : List V} (h : Rps K mg F l vs) (hd : dLen d vs.length) (hn : H a = none) : BR K mg G F (upd H a (hoOf d vs)) (σ.set i (some (.ref a))) (env.set i (Slot.ow d l)) where
  ext := ⟨b.ext.f, b.ext.h.trans (same_upd hn), b.ext.w.trans (same_upd hn), b.ext.sep⟩
  len := by rw [List.length_set, List.length_set]; exact b.len
  val := fun j q e => by
    by_cases hj : i = j
    · subst hj
      rw [List.getElem?_set] at e
      simp only [if_true] at e
      split at e <;> cases e
    · rw [List.getElem?_set_ne hj] at e ⊢
      exact b.val j q e
  own := fun j d' l' e => by
    by_cases hj : i = j
    · subst hj
      rw [List.getElem?_set] at e
      rw [List.getElem?_set]
      simp only [if_true] at e ⊢
      split at e
      · rename_i hl
        cases e
        exact ⟨a, vs, by rw [if_pos (by rw [b.len]; exact hl)], b.ext.h.free hn, b.w.free hn, upd_same, h, hd⟩
      · cases e
    · rw [List.getElem?_set_ne hj] at e ⊢
      obtain ⟨a', vs', h1, h2, h3, h4, h5⟩ := b.own j d' l' e
      exact ⟨a', vs', h1, h2, h3, by rw [upd_ne (ne_of_none h4 hn)]; exact h4, h5⟩
  sep := fun j k d1 d2 l1 l2 a' e1 e2 e3 e4 => by
    by_cases hj : i = j
    · subst hj
      by_cases hk : i = k
      · exact hk
      · rw [List.getElem?_set_ne hk] at e2 e4
        rw [List.getElem?_set] at e3
        simp only [if_true] at e3
        split at e3
        · cases e3
          obtain ⟨a2, vs2, h1, _, _, h4, _⟩ := b.own k d2 l2 e2
          rw [h1] at e4
          cases e4
          rw [hn] at h4; cases h4
        · cases e3
    · rw [List.getElem?_set_ne hj] at e1 e3
      by_cases hk : i = k
      · subst hk
        rw [List.getElem?_set] at e4
        simp only [if_true] at e4
        split at e4
        · cases e4
          obtain ⟨a2, vs2, h1, _, _, h4, _⟩ := b.own j d1 l1 e1
          rw [h1] at e3
          cases e3
          rw [hn] at h4; cases h4
        · cases e4
      · rw [List.getElem?_set_ne hk] at e2 e4
        exact b.sep j k d1 d2 l1 l2 a' e1 e2 e3 e4
theorem BR.setOwn (b : BR K mg G F H σ env) {i : Nat} {l : List PV} {a : Addr} {vs : List V} (h : Rps K mg F l vs) (hn : H a = none) : BR K mg G F (upd H a (.lst vs)) (σ.set i (some (.ref a))) (env.set i (Slot.own l)) := b.setOw (d := .none) h trivial hn
/-- a list of one's own is changed -/
theorem BR.changeO (b : BR K mg G F H σ env) {i : Nat} {d d2 : Option (List Key)} {l l' : List PV} {a : Addr} {vs' : List V} (he : env[i]? = some (Slot.ow d l)) (hs : σ[i]? = some (some (.ref a))) (h : Rps K mg F l' vs') (hd : dLen d2 vs'.length) : BR K mg G F (upd H a (hoOf d2 vs')) σ (env.set i (Slot.ow d2 l')) := by
  obtain ⟨a2, vs, h1, h2, h3, h4, h5, h6⟩ := b.own i d l he
  rw [hs] at h1
  cases h1
  have hi : i < env.length := (List.getElem?_eq_some_iff.mp he).1
  have back : ∀ (j : Nat) (dd : Option (List Key)) (m : List PV), (env.set i (Slot.ow d2 l'))[j]? = some (Slot.ow dd m) → ∃ dd' m', env[j]? = some (Slot.ow dd' m') := fun j dd m e => by
    by_cases hj : i = j
    · subst hj; exact ⟨d, l, he⟩
    · rw [List.getElem?_set_ne hj] at e; exact ⟨dd, m, e⟩
  refine ⟨⟨b.ext.f, fun x o q => ?_, fun x o q => ?_, b.ext.sep⟩, by rw [List.length_set]; exact b.len, fun j q e => ?_, fun j dd m e => ?_, fun j k d1 d3 l1 l2 x e1 e2 e3 e4 => ?_⟩
  · rw [upd_ne (ne_of_none q h2)]; exact b.ext.h _ _ q
  · rw [upd_ne (ne_of_none q h3)]; exact b.ext.w _ _ q
  · by_cases hj : i = j
    · subst hj
      rw [List.getElem?_set] at e
      simp only [if_true] at e
      split at e <;> cases e
    · rw [List.getElem?_set_ne hj] at e
      exact b.val j q e
  · by_cases hj : i = j
    · subst hj
      rw [List.getElem?_set] at e
      simp only [if_true, hi] at e
      cases e
      exact ⟨a, vs', hs, h2, h3, upd_same, h, hd⟩
    · rw [List.getElem?_set_ne hj] at e
      obtain ⟨a', ws, g1, g2, g3, g4, g5⟩ := b.own j dd m e
      have ne : a' ≠ a := fun z => by
        subst z
        exact hj (b.sep i j d dd l m a' he e hs g1)
      exact ⟨a', ws, g1, g2, g3, by rw [upd_ne ne]; exact g4, g5⟩
  · obtain ⟨dd1, m1, q1⟩ := back j d1 l1 e1
    obtain ⟨dd2, m2, q2⟩ := back k d3 l2 e2
    exact b.sep j k dd1 dd2 m1 m2 x q1 q2 e3 e4
theorem BR.change (b : BR K mg G F H σ env) {i : Nat} {l l' : List PV} {a : Addr} {vs' : List V} (he : env[i]? = some (Slot.own l)) (hs : σ[i]? = some (some (.ref a))) (h : Rps K mg F l' vs') : BR K mg G F (upd H a (.lst vs')) σ (env.set i (Slot.own l')) := b.changeO (d2 := .none) he hs h trivial
theorem BR.ownL (b : BR K mg G F H σ env) (i : Nat) (l : List PV) (e : env[i]? = some (Slot.own l)) : ∃ a vs, σ[i]? = some (some (.ref a)) ∧ G.2 a = none ∧ F a = none ∧ H a = some (.lst vs) ∧ Rps K mg F l vs := by
  obtain ⟨a, vs, h1, h2, h3, h4, h5, _⟩ := b.own i .none l e
  exact ⟨a, vs, h1, h2, h3, h4, h5⟩
theorem BR.ownD (b : BR K mg G F H σ env) (i : Nat) (ks : List Key) (l : List PV) (e : env[i]? = some (Slot.owd ks l)) : ∃ a vs, σ[i]? = some (some (.ref a)) ∧ G.2 a = none ∧ F a = none ∧ H a = some (.dK (ks.zip vs)) ∧ Rps K mg F l vs ∧ vs.length = ks.length := by
  obtain ⟨a, vs, h1, h2, h3, h4, h5, h6⟩ := b.own i (some ks) l e
  exact ⟨a, vs, h1, h2, h3, h4, h5, h6⟩
/-- a list of one's own is let go: from now on nobody changes it -/
theorem BR.freeze (b : BR K mg G F H σ env) {i : Nat} {d : Option (List Key)} {l : List PV} (he : env[i]? = some (Slot.ow d l)) : ∃ F', Same F F' ∧ BR K mg G F' H σ (env.set i (Slot.val (frzOf d l))) := by
  obtain ⟨a, vs, h1, h2, h3, h4, h5, h6⟩ := b.own i d l he
  have hi : i < env.length := (List.getElem?_eq_some_iff.mp he).1
  have sF : Same F (upd F a (hoOf d vs)) := same_upd h3
  refine ⟨upd F a (hoOf d vs), sF, ⟨b.ext.f.trans sF, b.ext.h, fun x o q => ?_, fun x e n => ?_⟩, by rw [List.length_set]; exact b.len, fun j q e => ?_, fun j dd m e => ?_, fun j k d1 d2 l1 l2 x e1 e2 e3 e4 => ?_⟩
  · by_cases hx : x = a
    · subst hx; rw [upd_same] at q; cases q; exact h4
    · rw [upd_ne hx] at q; exact b.w _ _ q
  · have hx : x ≠ a := fun z => by subst z; exact n h2
    rw [upd_ne hx]; exact b.ext.sep x e n
  · by_cases hj : i = j
    · subst hj
      rw [List.getElem?_set] at e
      simp only [if_true, hi] at e
      cases e
      refine ⟨.ref a, h1, ?_⟩
      cases d with
      | none =>
        simp only [frzOf, Rp]
        exact ⟨a, vs, rfl, .inl (.inl upd_same), h5.mono sF⟩
      | some ks =>
        simp only [frzOf, Rp]
        exact ⟨a, vs, rfl, upd_same, h6, h5.mono sF⟩
    · rw [List.getElem?_set_ne hj] at e
      obtain ⟨v, g1, g2⟩ := b.val j q e
      exact ⟨v, g1, g2.mono sF⟩
  · by_cases hj : i = j
    · subst hj
      rw [List.getElem?_set] at e
      simp only [if_true] at e
      split at e <;> cases e
    · rw [List.getElem?_set_ne hj] at e
      obtain ⟨a', ws, g1, g2, g3, g4, g5, g6⟩ := b.own j dd m e
      have ne : a' ≠ a := fun z => by
        subst z
        exact hj (b.sep i j d dd l m a' he e h1 g1)
      exact ⟨a', ws, g1, g2, by rw [upd_ne ne]; exact g3, g4, g5.mono sF, g6⟩
  · have hj : i ≠ j := fun z => by
      subst z
      rw [List.getElem?_set] at e1
      simp only [if_true] at e1
      split at e1 <;> cases e1
    have hk : i ≠ k := fun z => by
      subst z
      rw [List.getElem?_set] at e2
      simp only [if_true] at e2
      split at e2 <;> cases e2
    rw [List.getElem?_set_ne hj] at e1
    rw [List.getElem?_set_ne hk] at e2
    exact b.sep j k d1 d2 l1 l2 x e1 e2 e3 e4
end
end Nf

/-! a dict beside a text: not alike -/
namespace Nf
open PySem PySem.Spec L2
open AutoSeq1 (wpAny_loadPart')
theorem str_declines_dict (b : Str) (u : Tok) (l : Addr) (c : Value) (es : Array DictEntry) (n : Nat) (dd : Option Addr) (sl : Array (Option Value)) :
    Meets (Builtin.«str.__eq__» ⟨[.str b u, .ref l], []⟩) (fun _ R s => s.heap.get? l = some { cls := c, dict := dd, data := .dict es n, slots := sl } ∧ R (.ok (.ret .notImplemented)) s) :=
  .of_wp fun prog w A R s h => by obtain ⟨hp, g, d, tk, os⟩ := s; obtain ⟨hl, h⟩ := h; wp_walk using wpAny_loadPart' hl, wpAny_load hl; exact ⟨_, rfl, h⟩
section
variable {prog : Program} {w : World} {K : Type} [DecidableEq K] {knd : PySem.KeyKind prog w K} {A : Around} {E : Value → Shared → Prop} {s : Shared}
theorem dict_beside_str {a : Addr} {z : Str} {t : Tok} {ka : List (K × Value)} {Q : Value → Shared → Prop} (da : s.heap.DictOf knd a ka) (hu : A.units < cLine) (h : Q (.bool false) s) :
    wpAny (model prog w) A (compareOp .Eq (.ref a) (.str z t)) Q E s := by
  have ts := typeIs_str s z t
  have dT := da.typeIs
  obtain ⟨⟨cls, dd, data, sl⟩, es, ep, hoa, hc, hd, _⟩ := da
  simp only at hc hd
  subst hd
  refine SeqAt.rc_eq_decline_or (k := false) dT ts (by decide) PySem.F.sub_str_dict PySem.F.slot_dict_eq PySem.F.slot_str_eq_refl
    (fun Q' hq => wpAny_call_entry PySem.F.slot_dict_eq dT PySem.F.entry_dict_eq ?_ (PySem.F.args_dict_eq_2 _ _))
    (fun Q' hq => call_meets PySem.F.slot_str_eq_refl ts PySem.F.entry_str_eq (PySem.F.args_str_eq_2 _ _) (str_declines_dict z t a cls es ep dd sl) ⟨hoa, hq⟩)
    (fun Q' hq => wpAny_of_eq (rfl : isSame (.ref a) (.str z t) = pure false) hq) (.inr hu) h
  show wpAny _ _ (Builtin.Dict.dictSlotArgs "__eq__" ⟨[.ref a, .str z t], []⟩ >>= _) _ _ s
  refine wpAny_bind ?_
  unfold Builtin.Dict.dictSlotArgs
  refine wpAny_bind (wpAny_notOrdered_dict dT ?_)
  show wpAny _ _ (pure (Value.ref a, Value.str z t)) _ _ s
  refine wpAny_pure ?_
  refine wpAny_bind (wpAny_isInstance (T := "str") ts PySem.F.sub_str_dict ?_)
  simp only [Bool.not_false, if_true]
  refine wpAny_bind (wpAny_rule ?_)
  first
    | exact wpAny_bind (wpAny_pure (wpAny_pure ⟨_, rfl, hq⟩))
    | exact wpAny_pure ⟨_, rfl, hq⟩
    | exact wpAny_bind (wpAny_pure ⟨_, rfl, hq⟩)
    | exact wpAny_bind (wpAny_pure (wpAny_pure hq))
    | exact wpAny_pure hq
end
def rEqDS : R2 := fun x y H Q => ∃ a ks z, x = .ref a ∧ y = .str z ∧ H a = some (.dK ks) ∧ Q (.bl false) H
theorem op_eq_dstr {X : Cx} (hu : X.A.units < cLine) : OpR X (compareOp .Eq) rEqDS := by
  intro pins s σ H x y v u Q I rx ry h
  obtain ⟨a, ks, z, rfl, rfl, ea, q⟩ := h
  obtain rfl : v = Value.ref a := rx
  obtain ⟨t, rfl⟩ := ry
  obtain ⟨_, ya, va, ra, da⟩ := (show ObjOk X.prog X.w H s.heap a (.dK ks) from I.hok a _ ea)
  exact dict_beside_str da hu (fin_bl I q rfl)
end Nf

namespace Nf
open PySem PySem.Spec PyProof.Rows L2

inductive R where
  | ok (p : PV) | exc (x : PX) | fail
inductive RL where
  | ok (ps : List PV) | exc (x : PX) | fail
inductive Fl where
  | nx (env : Lo) | rt (p : PV) | bk (env : Lo) | ct (env : Lo) | exc (x : PX) (env : Lo) | fail

def R.bind (r : R) (f : PV → R) : R := match r with
  | .ok p => f p
  | .exc x => .exc x
  | .fail => .fail
def R.bindL (r : R) (f : PV → RL) : RL := match r with
  | .ok p => f p
  | .exc x => .exc x
  | .fail => .fail
def RL.bind (r : RL) (f : List PV → R) : R := match r with
  | .ok p => f p
  | .exc x => .exc x
  | .fail => .fail
def RL.bindL (r : RL) (f : List PV → RL) : RL := match r with
  | .ok p => f p
  | .exc x => .exc x
  | .fail => .fail
/-- in a statement: the locals go with what is raised -/
def R.go (r : R) (env : Lo) (f : PV → Fl) : Fl := match r with
  | .ok p => f p
  | .exc x => .exc x env
  | .fail => .fail
def RL.go (r : RL) (env : Lo) (f : List PV → Fl) : Fl := match r with
  | .ok p => f p
  | .exc x => .exc x env
  | .fail => .fail
section
variable {p : PV} {ps : List PV} {x : PX} {f : PV → R} {fl : PV → RL} {g : List PV → R} {gl : List PV → RL} {h : PV → Fl} {k : List PV → Fl} {env : Lo}
theorem R.bind_ok : (R.ok p).bind f = f p := rfl
theorem R.bind_exc : (R.exc x).bind f = R.exc x := rfl
theorem R.bindL_ok : (R.ok p).bindL fl = fl p := rfl
theorem R.bindL_exc : (R.exc x).bindL fl = RL.exc x := rfl
theorem RL.bind_ok : (RL.ok ps).bind g = g ps := rfl
theorem RL.bind_exc : (RL.exc x).bind g = R.exc x := rfl
theorem RL.bindL_ok : (RL.ok ps).bindL gl = gl ps := rfl
theorem RL.bindL_exc : (RL.exc x).bindL gl = RL.exc x := rfl
theorem R.go_ok : (R.ok p).go env h = h p := rfl
theorem R.go_exc : (R.exc x).go env h = Fl.exc x env := rfl
theorem RL.go_ok : (RL.ok ps).go env k = k ps := rfl
theorem RL.go_exc : (RL.exc x).go env k = Fl.exc x env := rfl
end

def Rx (K : PySem.W.Frag) (mg : Str → Option Value) (F : Hp) (x : PX) (cls : Value) (d : Option Addr) : Prop :=
  ∃ C, mg x.c = some (.ref C) ∧ cls = .ref C ∧ match x.d with
    | none => d = none
    | some fp => ∃ dd v, d = some dd ∧ F dd = some (.xd [(fp.1, v)]) ∧ Rp K mg F fp.2 v

/-- what is wanted behind an expression with this outcome -/
def PostR (K : PySem.W.Frag) (mg : Str → Option Value) (W : Value → Option Addr → Hp → Prop) (F H : Hp) (Q : VK) : R → Prop
  | .ok p => ∀ F' H' v, Ext F H F' H' → Rp K mg F' p v → Q v H'
  | .exc x => ∀ F' H' c d, Ext F H F' H' → Rx K mg F' x c d → W c d H'
  | .fail => False
def PostL (K : PySem.W.Frag) (mg : Str → Option Value) (W : Value → Option Addr → Hp → Prop) (F H : Hp) (Q : List V → Hp → Prop) : RL → Prop
  | .ok ps => ∀ F' H' vs, Ext F H F' H' → Rps K mg F' ps vs → Q vs H'
  | .exc x => ∀ F' H' c d, Ext F H F' H' → Rx K mg F' x c d → W c d H'
  | .fail => False
/-- .. a statement -/
def PostS (K : PySem.W.Frag) (mg : Str → Option Value) (G : Hp × Hp) (W : WX) (F : Hp) (D : Ends) : Fl → Prop
  | .nx env => ∀ F' H' σ, Same F F' → BR K mg G F' H' σ env → D.nx σ H'
  | .bk env => ∀ F' H' σ, Same F F' → BR K mg G F' H' σ env → D.bk σ H'
  | .ct env => ∀ F' H' σ, Same F F' → BR K mg G F' H' σ env → D.ct σ H'
  | .rt p => ∀ F' H' v, Ext G.1 G.2 F' H' → Rp K mg F' p v → D.rt v H'
  | .exc x env => ∀ F' H' σ c d, Same F F' → BR K mg G F' H' σ env → Rx K mg F' x c d → W c d σ H'
  | .fail => False

section
variable {K : PySem.W.Frag} {mg : Str → Option Value} {G : Hp × Hp} {W : Value → Option Addr → Hp → Prop} {WS : WX} {F F' H H' : Hp} {σ : L2.St} {env : Lo}
theorem PostR.move {Q : VK} {r : R} (h : PostR K mg W F H Q r) (e : Ext F H F' H') : PostR K mg W F' H' Q r := by
  cases r with
  | ok p => exact fun F2 H2 v e2 rv => h F2 H2 v (e.trans e2) rv
  | exc x => exact fun F2 H2 c d e2 rx => h F2 H2 c d (e.trans e2) rx
  | fail => exact h
theorem PostL.move {Q : List V → Hp → Prop} {r : RL} (h : PostL K mg W F H Q r) (e : Ext F H F' H') : PostL K mg W F' H' Q r := by
  cases r with
  | ok p => exact fun F2 H2 v e2 rv => h F2 H2 v (e.trans e2) rv
  | exc x => exact fun F2 H2 c d e2 rx => h F2 H2 c d (e.trans e2) rx
  | fail => exact h
theorem PostS.move {D : Ends} {r : Fl} (h : PostS K mg G WS F D r) (e : Same F F') : PostS K mg G WS F' D r := by
  cases r with
  | nx env => exact fun F2 H2 σ e2 b => h F2 H2 σ (e.trans e2) b
  | bk env => exact fun F2 H2 σ e2 b => h F2 H2 σ (e.trans e2) b
  | ct env => exact fun F2 H2 σ e2 b => h F2 H2 σ (e.trans e2) b
  | rt p => exact h
  | exc x env => exact fun F2 H2 σ c d e2 b => h F2 H2 σ c d (e.trans e2) b
  | fail => exact h
end

/-- the readings: an expression, a test, an argument list, a statement by its plain function -/
def tE (X : Cx) (G : Hp × Hp) (W : WX) (f : Lo → R) : TE := fun σ H Q => ∃ F env, BR X.K X.mg G F H σ env ∧ PostR X.K X.mg (fun c d H => W c d σ H) F H Q (f env)
def tT (X : Cx) (G : Hp × Hp) (W : WX) (f : Lo → R) : TT := fun σ H Q => ∃ F env, BR X.K X.mg G F H σ env ∧ PostR X.K X.mg (fun c d H => W c d σ H) F H (fun v H' => ∃ b, v = .bl b ∧ Q b H') (f env)
def tA (X : Cx) (G : Hp × Hp) (W : WX) (f : Lo → RL) : TA := fun σ H Q => ∃ F env, BR X.K X.mg G F H σ env ∧ PostL X.K X.mg (fun c d H => W c d σ H) F H Q (f env)
def tSt (X : Cx) (G : Hp × Hp) (W : WX) (f : Lo → Fl) : TS := fun D σ H => ∃ F env, BR X.K X.mg G F H σ env ∧ PostS X.K X.mg G W F D (f env)

theorem PE_mono {X : Cx} {e : Expr} {t t' : TE} (h : PE X e t) (m : ∀ σ H Q, t' σ H Q → t σ H Q) : PE X e t' := ⟨fun pins s σ H Q I q => h.run pins s σ H Q I (m σ H Q q)⟩
theorem PT_mono {X : Cx} {e : Expr} {t t' : TT} (h : PT X e t) (m : ∀ σ H Q, t' σ H Q → t σ H Q) : PT X e t' := ⟨fun pins s σ H Q I q => h.run pins s σ H Q I (m σ H Q q)⟩
theorem PW_mono {X : Cx} {e : Expr} {t t' : TT} (h : PW X e t) (m : ∀ σ H Q, t' σ H Q → t σ H Q) : PW X e t' := ⟨fun wh pins s σ H Q I q => h.run wh pins s σ H Q I (m σ H Q q)⟩
theorem PA_mono {X : Cx} {e : List Expr} {t t' : TA} (h : PA X e t) (m : ∀ σ H Q, t' σ H Q → t σ H Q) : PA X e t' := ⟨fun pos pins s σ H Q I q => h.run pos pins s σ H Q I (m σ H Q q)⟩
theorem PS_mono {X : Cx} {e : Stmt} {t t' : TS} (h : PS X e t) (m : ∀ D σ H, t' D σ H → t D σ H) : PS X e t' := ⟨fun pins s σ H D I q => h.run pins s σ H D I (m D σ H q)⟩
theorem PSs_mono {X : Cx} {e : List Stmt} {t t' : TS} (h : PSs X e t) (m : ∀ D σ H, t' D σ H → t D σ H) : PSs X e t' := ⟨fun pins s σ H D I q => h.run pins s σ H D I (m D σ H q)⟩

section
variable {X : Cx} {G : Hp × Hp} {W : WX}
/-- one expression, then what is done with its value -/
theorem tE_bind {fa : Lo → R} {g : PV → R} {σ : L2.St} {F H : Hp} {Q : VK} {P : V → Hp → Prop} {env : Lo}
    (b : BR X.K X.mg G F H σ env) (h : PostR X.K X.mg (fun c d H => W c d σ H) F H Q ((fa env).bind g))
    (hP : ∀ p v F' H', fa env = .ok p → Ext F H F' H' → BR X.K X.mg G F' H' σ env → Rp X.K X.mg F' p v → PostR X.K X.mg (fun c d H => W c d σ H) F' H' Q (g p) → P v H') : tE X G W fa σ H P := by
  refine ⟨F, env, b, ?_⟩
  cases e : fa env with
  | ok p =>
    rw [e] at h
    exact fun F' H' v ex rv => hP p v F' H' e ex (b.mono ex) rv (h.move ex)
  | exc x =>
    rw [e] at h
    exact h
  | fail =>
    rw [e] at h
    exact h
theorem tA_bind {fa : Lo → RL} {g : List PV → R} {σ : L2.St} {F H : Hp} {Q : VK} {P : List V → Hp → Prop} {env : Lo}
    (b : BR X.K X.mg G F H σ env) (h : PostR X.K X.mg (fun c d H => W c d σ H) F H Q ((fa env).bind g))
    (hP : ∀ p v F' H', Ext F H F' H' → BR X.K X.mg G F' H' σ env → Rps X.K X.mg F' p v → PostR X.K X.mg (fun c d H => W c d σ H) F' H' Q (g p) → P v H') : tA X G W fa σ H P := by
  refine ⟨F, env, b, ?_⟩
  cases e : fa env with
  | ok p =>
    rw [e] at h
    exact fun F' H' v ex rv => hP p v F' H' ex (b.mono ex) rv (h.move ex)
  | exc x =>
    rw [e] at h
    exact h
  | fail =>
    rw [e] at h
    exact h
/-- .. in a statement -/
theorem tE_go {fa : Lo → R} {g : PV → Fl} {σ : L2.St} {F H : Hp} {D : Ends} {P : V → Hp → Prop} {env : Lo}
    (b : BR X.K X.mg G F H σ env) (h : PostS X.K X.mg G W F D ((fa env).go env g))
    (hP : ∀ p v F' H', fa env = .ok p → Ext F H F' H' → BR X.K X.mg G F' H' σ env → Rp X.K X.mg F' p v → PostS X.K X.mg G W F' D (g p) → P v H') : tE X G W fa σ H P := by
  refine ⟨F, env, b, ?_⟩
  cases e : fa env with
  | ok p =>
    rw [e] at h
    exact fun F' H' v ex rv => hP p v F' H' e ex (b.mono ex) rv (h.move ex.f)
  | exc x =>
    rw [e] at h
    exact fun F' H' c d ex rx => h F' H' σ c d ex.f (b.mono ex) rx
  | fail =>
    rw [e] at h
    exact h
theorem tT_go {fa : Lo → R} {g : PV → Fl} {σ : L2.St} {F H : Hp} {D : Ends} {P : Bool → Hp → Prop} {env : Lo}
    (b : BR X.K X.mg G F H σ env) (h : PostS X.K X.mg G W F D ((fa env).go env g))
    (hP : ∀ p v F' H', Ext F H F' H' → BR X.K X.mg G F' H' σ env → Rp X.K X.mg F' p v → PostS X.K X.mg G W F' D (g p) → ∃ k, v = .bl k ∧ P k H') : tT X G W fa σ H P := by
  refine ⟨F, env, b, ?_⟩
  cases e : fa env with
  | ok p =>
    rw [e] at h
    exact fun F' H' v ex rv => hP p v F' H' ex (b.mono ex) rv (h.move ex.f)
  | exc x =>
    rw [e] at h
    exact fun F' H' c d ex rx => h F' H' σ c d ex.f (b.mono ex) rx
  | fail =>
    rw [e] at h
    exact h
end

section
variable {K : PySem.W.Frag} {mg : Str → Option Value} {F : Hp} {v : V}
theorem rp_non : Rp K mg F .non v ↔ v = .non := by simp only [Rp]
theorem rp_bl {b : Bool} : Rp K mg F (.bl b) v ↔ v = .bl b := by simp only [Rp]
theorem rp_int {i : Int} : Rp K mg F (.int i) v ↔ v = .int i := by simp only [Rp]
theorem rp_str {x : Str} : Rp K mg F (.str x) v ↔ v = .str x := by simp only [Rp]
theorem rp_tup {l : List PV} : Rp K mg F (.tup l) v ↔ ∃ a vs, v = .ref a ∧ SqT K F a vs ∧ Rps K mg F l vs := by simp only [Rp]
theorem rp_lst {l : List PV} : Rp K mg F (.lst l) v ↔ ∃ a vs, v = .ref a ∧ SqL K F a vs ∧ Rps K mg F l vs := by simp only [Rp]
theorem rp_ins {c : Str} : Rp K mg F (.ins c) v ↔ ∃ a C dx, v = .ref a ∧ F a = some (.ins C dx []) ∧ mg c = some (.ref C) := by simp only [Rp]
theorem rp_dct {ks : List Key} {l : List PV} : Rp K mg F (.dct ks l) v ↔ ∃ a us, v = .ref a ∧ F a = some (.dK (ks.zip us)) ∧ us.length = ks.length ∧ Rps K mg F l us := by simp only [Rp]
theorem rp_exn {c : Str} {fs : List PV} : Rp K mg F (.exn c fs) v ↔ ∃ a D d us, v = .ref a ∧ F a = some (exHO (.ref D) a d) ∧ mg c = some (.ref D) ∧ Rps K mg F fs us ∧ ((us = [] ∧ d = none) ∨ ∃ f u dd, us = [.str f, u] ∧ d = some dd ∧ F dd = some (.xd [(f, u)])) := by simp only [Rp]
end

/-! ### names, constants -/
def eV (i : Nat) : Lo → R := fun env => match env[i]? with
  | some (Slot.val p) => .ok p
  | _ => .fail
def eC (p : PV) : Lo → R := fun _ => .ok p
section
variable {X : Cx} {G : Hp × Hp} {W : WX} {pos : Pos}
theorem se_V (i : Nat) {x : Str} (hN : X.N[i]? = some x := by rfl) (hv : Vis X.env.scope x := by first | exact Or.inl rfl | exact Or.inr (Or.inl rfl) | exact Or.inr (Or.inr rfl)) (hd : (x == ("__debug__" : Str)) = false := by decide)
    (hcd : (x == ("__classdict__" : Str)) = false := by decide) : PE X (.Name x pos) (tE X G W (eV i)) := by
  refine PE_mono (pe_var hN hv hd hcd) fun σ H Q h => ?_
  obtain ⟨F, env, b, h⟩ := h
  unfold eV at h
  split at h
  · rename_i p e
    obtain ⟨v, h1, h2⟩ := b.val i p e
    exact ⟨v, h1, h F H v (Ext.refl b.w) h2⟩
  · exact h.elim
theorem se_int {i : Int} {j} : PE X (.Constant (.int i) j pos) (tE X G W (eC (.int i))) := PE_mono pe_int fun σ H Q ⟨F, env, b, h⟩ => h F H _ (Ext.refl b.w) (rp_int.mpr rfl)
theorem se_bl {i : Bool} {j} : PE X (.Constant (.bool i) j pos) (tE X G W (eC (.bl i))) := PE_mono pe_bl fun σ H Q ⟨F, env, b, h⟩ => h F H _ (Ext.refl b.w) (rp_bl.mpr rfl)
theorem se_non {j} : PE X (.Constant .none j pos) (tE X G W (eC .non)) := PE_mono pe_non fun σ H Q ⟨F, env, b, h⟩ => h F H _ (Ext.refl b.w) (rp_non.mpr rfl)
theorem se_str {i : Str} {j} : PE X (.Constant (.str i) j pos) (tE X G W (eC (.str i))) := PE_mono pe_str fun σ H Q ⟨F, env, b, h⟩ => h F H _ (Ext.refl b.w) (rp_str.mpr rfl)
end

/-! ### operators of two values -/
def e2 (g : PV → PV → R) (fa fb : Lo → R) : Lo → R := fun env => (fa env).bind fun p => (fb env).bind fun q => g p q
/-- g says what the operation r gives -/
def OpG (X : Cx) (r : R2) (g : PV → PV → R) : Prop := ∀ (W : Value → Option Addr → Hp → Prop) (F H : Hp) (Q : VK) (p q : PV) (v u : V), Same F H → Rp X.K X.mg F p v → Rp X.K X.mg F q u → PostR X.K X.mg W F H Q (g p q) → r v u H Q
theorem op2 {X : Cx} {G : Hp × Hp} {W : WX} {r : R2} {g : PV → PV → R} {fa fb : Lo → R} (hg : OpG X r g) {σ : L2.St} {H : Hp} {Q : VK} (h : tE X G W (e2 g fa fb) σ H Q) : tOp r (tE X G W fa) (tE X G W fb) σ H Q := by
  obtain ⟨F, env, b, h⟩ := h
  refine tE_bind b h fun p v F1 H1 _ e1 b1 rp h1 => ?_
  refine tE_bind b1 h1 fun q u F2 H2 _ e2 b2 rq h2 => ?_
  exact hg _ F2 H2 Q p q v u b2.w (rp.mono e2.f) rq h2
section
variable {X : Cx} {G : Hp × Hp} {W : WX} {a b : Expr} {fa fb : Lo → R} {pos : Pos}
theorem se_op {op : Operator} {r : R2} {g : PV → PV → R} (ho : OpR X (binaryOp op) r) (hg : OpG X r g) (ha : PE X a (tE X G W fa)) (hb : PE X b (tE X G W fb)) : PE X (.BinOp a op b pos) (tE X G W (e2 g fa fb)) :=
  PE_mono (pe_op ho ha hb) fun _ _ _ h => op2 hg h
theorem se_cmp {op : CmpOp} {r : R2} {g : PV → PV → R} (ho : OpR X (compareOp op) r) (hg : OpG X r g) (ha : PE X a (tE X G W fa)) (hb : PE X b (tE X G W fb)) (hm : behindInMarks op b = false) : PE X (.Compare a [op] [b] pos) (tE X G W (e2 g fa fb)) :=
  PE_mono (pe_cmpR ho ha hb hm) fun _ _ _ h => op2 hg h
theorem st_cmp {op : CmpOp} {r : R2} {g : PV → PV → R} (ho : OpR X (compareOp op) r) (hg : OpG X r g) (ha : PE X a (tE X G W fa)) (hb : PE X b (tE X G W fb)) (hm : behindInMarks op b = false) : PT X (.Compare a [op] [b] pos) (tT X G W (e2 g fa fb)) :=
  PT_mono (pt_cmpR ho ha hb hm) fun _ _ _ h => op2 hg h
end

def gI (f : Int → Int → R) : PV → PV → R := fun p q => match p, q with
  | .int i, .int j => f i j
  | _, _ => .fail
theorem rp_inv_int {K : PySem.W.Frag} {mg : Str → Option Value} {F : Hp} {i : Int} {v : V} (h : Rp K mg F (.int i) v) : v = .int i := rp_int.mp h
/-- ints under a condition -/
theorem opG_I {X : Cx} {C : Int → Int → Prop} [∀ i j, Decidable (C i j)] {g : Int → Int → Int} : OpG X (rI C fun i j => .int (g i j)) (gI fun i j => if C i j then .ok (.int (g i j)) else .fail) := by
  intro W F H Q p q v u w rp rq h
  unfold gI at h
  split at h
  · rename_i i j
    have e1 := rp_int.mp rp
    have e2 := rp_int.mp rq
    subst e1 e2
    dsimp only at h
    split at h
    · rename_i hc
      exact ⟨i, j, rfl, rfl, hc, h F H _ (Ext.refl w) (rp_int.mpr rfl)⟩
    · exact h.elim
  · exact h.elim
theorem opG_I0 {X : Cx} {g : Int → Int → Int} : OpG X (rI0 fun i j => .int (g i j)) (gI fun i j => .ok (.int (g i j))) := by
  intro W F H Q p q v u w rp rq h
  unfold gI at h
  split at h
  · rename_i i j
    have e1 := rp_int.mp rp
    have e2 := rp_int.mp rq
    subst e1 e2
    exact ⟨i, j, rfl, rfl, h F H _ (Ext.refl w) (rp_int.mpr rfl)⟩
  · exact h.elim
theorem opG_B0 {X : Cx} {g : Int → Int → Bool} : OpG X (rI0 fun i j => .bl (g i j)) (gI fun i j => .ok (.bl (g i j))) := by
  intro W F H Q p q v u w rp rq h
  unfold gI at h
  split at h
  · rename_i i j
    have e1 := rp_int.mp rp
    have e2 := rp_int.mp rq
    subst e1 e2
    exact ⟨i, j, rfl, rfl, h F H _ (Ext.refl w) (rp_bl.mpr rfl)⟩
  · exact h.elim
/-! the conditions -/
instance (i j : Int) : Decidable (CMulX i j) := inferInstanceAs (Decidable (_ ≤ _))
instance (i j : Int) : Decidable (CShl i j) := inferInstanceAs (Decidable (_ ∧ _))
def CPowG (i j : Int) : Prop := 0 ≤ j ∧ (Builtin.Int.intBits i : Int) * j ≤ 2 ^ 27
instance (i j : Int) : Decidable (CPowG i j) := inferInstanceAs (Decidable (_ ∧ _))
def CDivG (i j : Int) : Prop := j ≠ 0 ∧ Builtin.divisionGoesByPylong i j = false
instance (i j : Int) : Decidable (CDivG i j) := inferInstanceAs (Decidable (_ ∧ _))
section
variable {X : Cx}
theorem op_powG : OpR X (binaryOp .Pow) (rI CPowG fun i j => .int (i ^ j.toNat)) := opI fun _ _ _ _ _ _ _ hc q => pow_int hc.1 hc.2 q
theorem op_fdivG : OpR X (binaryOp .FloorDiv) (rI CDivG fun i j => .int (i.fdiv j)) := opI fun i j _ _ _ _ _ hc q => floordiv_int hc.1 q (.inl hc.2)
end
def gAdd : PV → PV → R := fun p q => match p, q with
  | .int i, .int j => .ok (.int (i + j))
  | .str i, .str j => if i.length + j.length ≤ 100000 then .ok (.str (i ++ j)) else .fail
  | _, _ => .fail
def gSub : PV → PV → R := gI fun i j => .ok (.int (i - j))
def gMul : PV → PV → R := gI fun i j => if CMulX i j then .ok (.int (i * j)) else .fail
def gFdiv : PV → PV → R := gI fun i j => if CDivG i j then .ok (.int (i.fdiv j)) else .fail
def gMod : PV → PV → R := gI fun i j => if j ≠ 0 then .ok (.int (i.fmod j)) else .fail
def gPow : PV → PV → R := gI fun i j => if CPowG i j then .ok (.int (i ^ j.toNat)) else .fail
def gShl : PV → PV → R := gI fun i j => if CShl i j then .ok (.int (i * 2 ^ j.toNat)) else .fail
def gShr : PV → PV → R := gI fun i j => if 0 ≤ j then .ok (.int (i / 2 ^ j.toNat)) else .fail
def gAnd : PV → PV → R := gI fun i j => .ok (.int (Builtin.bitAnd i j))
def gOr : PV → PV → R := gI fun i j => .ok (.int (Builtin.bitOr i j))
def gXor : PV → PV → R := gI fun i j => .ok (.int (Builtin.bitXor i j))
def gLt : PV → PV → R := gI fun i j => .ok (.bl (decide (i < j)))
def gLe : PV → PV → R := gI fun i j => .ok (.bl (decide (i ≤ j)))
def gGt : PV → PV → R := gI fun i j => .ok (.bl (decide (j < i)))
def gGe : PV → PV → R := gI fun i j => .ok (.bl (decide (j ≤ i)))
theorem opG_add {X : Cx} : OpG X (fun x y H Q => (∃ i j, x = .int i ∧ y = .int j ∧ Q (.int (i + j)) H) ∨ ∃ i j, x = .str i ∧ y = .str j ∧ i.length + j.length ≤ sizeLine ∧ Q (.str (i ++ j)) H) gAdd := by
  intro W F H Q p q v u w rp rq h
  unfold gAdd at h
  split at h
  · rename_i i j
    exact .inl ⟨i, j, rp_int.mp rp, rp_int.mp rq, h F H _ (Ext.refl w) (rp_int.mpr rfl)⟩
  · rename_i i j
    split at h
    · rename_i hl
      exact .inr ⟨i, j, rp_str.mp rp, rp_str.mp rq, Nat.le_trans hl (by decide), h F H _ (Ext.refl w) (rp_str.mpr rfl)⟩
    · exact h.elim
  · exact h.elim
section
variable {X : Cx} {G : Hp × Hp} {W : WX} {a b : Expr} {fa fb : Lo → R} {pos : Pos}
theorem se_add (ha : PE X a (tE X G W fa)) (hb : PE X b (tE X G W fb)) : PE X (.BinOp a .Add b pos) (tE X G W (e2 gAdd fa fb)) := se_op (op_add.or op_add_str) opG_add ha hb
theorem se_sub (ha : PE X a (tE X G W fa)) (hb : PE X b (tE X G W fb)) : PE X (.BinOp a .Sub b pos) (tE X G W (e2 gSub fa fb)) := se_op op_sub opG_I0 ha hb
theorem se_mul (ha : PE X a (tE X G W fa)) (hb : PE X b (tE X G W fb)) : PE X (.BinOp a .Mult b pos) (tE X G W (e2 gMul fa fb)) := se_op op_mulX opG_I ha hb
theorem se_fdiv (ha : PE X a (tE X G W fa)) (hb : PE X b (tE X G W fb)) : PE X (.BinOp a .FloorDiv b pos) (tE X G W (e2 gFdiv fa fb)) := se_op op_fdivG opG_I ha hb
theorem se_mod (ha : PE X a (tE X G W fa)) (hb : PE X b (tE X G W fb)) : PE X (.BinOp a .Mod b pos) (tE X G W (e2 gMod fa fb)) := se_op op_modN opG_I ha hb
theorem se_pow (ha : PE X a (tE X G W fa)) (hb : PE X b (tE X G W fb)) : PE X (.BinOp a .Pow b pos) (tE X G W (e2 gPow fa fb)) := se_op op_powG opG_I ha hb
theorem se_shl (ha : PE X a (tE X G W fa)) (hb : PE X b (tE X G W fb)) : PE X (.BinOp a .LShift b pos) (tE X G W (e2 gShl fa fb)) := se_op op_shlW opG_I ha hb
theorem se_shr (ha : PE X a (tE X G W fa)) (hb : PE X b (tE X G W fb)) : PE X (.BinOp a .RShift b pos) (tE X G W (e2 gShr fa fb)) := se_op op_shr opG_I ha hb
theorem se_and (ha : PE X a (tE X G W fa)) (hb : PE X b (tE X G W fb)) : PE X (.BinOp a .BitAnd b pos) (tE X G W (e2 gAnd fa fb)) := se_op op_and opG_I0 ha hb
theorem se_or (ha : PE X a (tE X G W fa)) (hb : PE X b (tE X G W fb)) : PE X (.BinOp a .BitOr b pos) (tE X G W (e2 gOr fa fb)) := se_op op_or opG_I0 ha hb
theorem se_xor (ha : PE X a (tE X G W fa)) (hb : PE X b (tE X G W fb)) : PE X (.BinOp a .BitXor b pos) (tE X G W (e2 gXor fa fb)) := se_op op_xor opG_I0 ha hb
theorem se_lt (ha : PE X a (tE X G W fa)) (hb : PE X b (tE X G W fb)) : PE X (.Compare a [.Lt] [b] pos) (tE X G W (e2 gLt fa fb)) := se_cmp op_lt opG_B0 ha hb (nomark _)
theorem se_le (ha : PE X a (tE X G W fa)) (hb : PE X b (tE X G W fb)) : PE X (.Compare a [.LtE] [b] pos) (tE X G W (e2 gLe fa fb)) := se_cmp op_le opG_B0 ha hb (nomark _)
theorem se_gt (ha : PE X a (tE X G W fa)) (hb : PE X b (tE X G W fb)) : PE X (.Compare a [.Gt] [b] pos) (tE X G W (e2 gGt fa fb)) := se_cmp op_gt opG_B0 ha hb (nomark _)
theorem se_ge (ha : PE X a (tE X G W fa)) (hb : PE X b (tE X G W fb)) : PE X (.Compare a [.GtE] [b] pos) (tE X G W (e2 gGe fa fb)) := se_cmp op_ge opG_B0 ha hb (nomark _)
theorem st_lt (ha : PE X a (tE X G W fa)) (hb : PE X b (tE X G W fb)) : PT X (.Compare a [.Lt] [b] pos) (tT X G W (e2 gLt fa fb)) := st_cmp op_lt opG_B0 ha hb (nomark _)
theorem st_le (ha : PE X a (tE X G W fa)) (hb : PE X b (tE X G W fb)) : PT X (.Compare a [.LtE] [b] pos) (tT X G W (e2 gLe fa fb)) := st_cmp op_le opG_B0 ha hb (nomark _)
theorem st_gt (ha : PE X a (tE X G W fa)) (hb : PE X b (tE X G W fb)) : PT X (.Compare a [.Gt] [b] pos) (tT X G W (e2 gGt fa fb)) := st_cmp op_gt opG_B0 ha hb (nomark _)
theorem st_ge (ha : PE X a (tE X G W fa)) (hb : PE X b (tE X G W fb)) : PT X (.Compare a [.GtE] [b] pos) (tT X G W (e2 gGe fa fb)) := st_cmp op_ge opG_B0 ha hb (nomark _)
end

/-! ### == and != of data, is None -/
mutual
def dOf : PV → Option PyData
  | .non => some .none
  | .bl b => some (.bool b)
  | .int i => some (.int i)
  | .str x => some (.str x)
  | .tup l => (dsOf l).map .tuple
  | .lst l => (dsOf l).map .list
  | .ins _ => none
  | .exn _ _ => none
  | .dct _ _ => none
def dsOf : List PV → Option (List PyData)
  | [] => some []
  | p :: ps => match dOf p, dsOf ps with
    | some d, some ds => some (d :: ds)
    | _, _ => none
end
mutual
theorem dp_of {K : PySem.W.Frag} {mg : Str → Option Value} {F H : Hp} (w : Same F H) : ∀ (p : PV) {v : V} {d : PyData}, Rp K mg F p v → dOf p = some d → Dp K H v d
  | .non, v, d, h, e => by
    simp only [Rp] at h
    simp only [dOf, Option.some.injEq] at e
    subst h e; exact .non
  | .bl b, v, d, h, e => by
    simp only [Rp] at h
    simp only [dOf, Option.some.injEq] at e
    subst h e; exact .bl b
  | .int i, v, d, h, e => by
    simp only [Rp] at h
    simp only [dOf, Option.some.injEq] at e
    subst h e; exact .int i
  | .str x, v, d, h, e => by
    simp only [Rp] at h
    simp only [dOf, Option.some.injEq] at e
    subst h e; exact .str x
  | .tup l, v, d, h, e => by
    simp only [Rp] at h
    obtain ⟨a, vs, rfl, h1, h2⟩ := h
    cases q : dsOf l with
    | none => simp [dOf, q] at e
    | some ds =>
      simp only [dOf, q, Option.map_some, Option.some.injEq] at e
      subst e
      exact .tup (sqt_mono w h1) (dps_of w l h2 q)
  | .lst l, v, d, h, e => by
    simp only [Rp] at h
    obtain ⟨a, vs, rfl, h1, h2⟩ := h
    cases q : dsOf l with
    | none => simp [dOf, q] at e
    | some ds =>
      simp only [dOf, q, Option.map_some, Option.some.injEq] at e
      subst e
      exact .lst (sql_mono w h1) (dps_of w l h2 q)
  | .ins _, v, d, h, e => by simp [dOf] at e
  | .exn _ _, v, d, h, e => by simp [dOf] at e
  | .dct _ _, v, d, h, e => by simp [dOf] at e
theorem dps_of {K : PySem.W.Frag} {mg : Str → Option Value} {F H : Hp} (w : Same F H) : ∀ (ps : List PV) {vs : List V} {ds : List PyData}, Rps K mg F ps vs → dsOf ps = some ds → DpAll K H vs ds
  | [], vs, ds, h, e => by
    simp only [Rps] at h
    simp only [dsOf, Option.some.injEq] at e
    subst h e; exact .nil
  | p :: ps, vs, ds, h, e => by
    simp only [Rps] at h
    obtain ⟨v, r, rfl, h1, h2⟩ := h
    cases q1 : dOf p with
    | none => simp [dsOf, q1] at e
    | some d =>
      cases q2 : dsOf ps with
      | none => simp [dsOf, q1, q2] at e
      | some ds' =>
        simp only [dsOf, q1, q2, Option.some.injEq] at e
        subst e
        exact .cons (dp_of w p h1 q1) (dps_of w ps h2 q2)
end
/-- a scalar as the hand layer's value -/
def flV : PV → Option V
  | .non => some .non
  | .bl b => some (.bl b)
  | .int i => some (.int i)
  | .str x => some (.str x)
  | _ => none
theorem flV_of {K : PySem.W.Frag} {mg : Str → Option Value} {F : Hp} {p : PV} {v u : V} (r : Rp K mg F p v) (e : flV p = some u) : v = u := by
  cases p with
  | non => cases e; exact rp_non.mp r
  | bl b => cases e; exact rp_bl.mp r
  | int i => cases e; exact rp_int.mp r
  | str x => cases e; exact rp_str.mp r
  | tup l => cases e
  | lst l => cases e
  | ins c => cases e
  | exn c fs => cases e
  | dct _ _ => cases e
/-- == of data -/
def eqD (p q : PV) : Option Bool := match dOf p, dOf q with
  | some d, some e => if SeqAt.shaped d = true ∧ SeqAt.shaped e = true then some (PyData.eqv d e) else none
  | _, _ => none
/-- what == tells of two plain values -/
def eqP (p q : PV) : Option Bool := match flV p, flV q with
  | some v, some u => if scal v u = true then some (decide (v = u)) else eqD p q
  | _, _ => eqD p q
/-- .. with a dict beside a text -/
def eqQ (p q : PV) : Option Bool := match p, q with
  | .dct _ _, .str _ => some false
  | p, q => eqP p q
def gEq : PV → PV → R := fun p q => match eqQ p q with
  | some b => .ok (.bl b)
  | none => .fail
def gNe : PV → PV → R := fun p q => match eqP p q with
  | some b => .ok (.bl (!b))
  | none => .fail
theorem eqD_some {p q : PV} {b : Bool} (h : eqD p q = some b) : ∃ d e, dOf p = some d ∧ dOf q = some e ∧ SeqAt.shaped d = true ∧ SeqAt.shaped e = true ∧ b = PyData.eqv d e := by
  unfold eqD at h
  split at h
  · rename_i d e h1 h2
    split at h
    · rename_i hs
      cases h
      exact ⟨d, e, h1, h2, hs.1, hs.2, rfl⟩
    · cases h
  · cases h
theorem eqP_some {p q : PV} {b : Bool} (h : eqP p q = some b) : (∃ v u, flV p = some v ∧ flV q = some u ∧ scal v u = true ∧ b = decide (v = u)) ∨ eqD p q = some b := by
  unfold eqP at h
  split at h
  · rename_i v u h1 h2
    split at h
    · rename_i hs
      cases h
      exact .inl ⟨v, u, h1, h2, hs, rfl⟩
    · exact .inr h
  · exact .inr h
theorem eqQ_some {p q : PV} {b : Bool} (h : eqQ p q = some b) : (∃ ks l z, p = .dct ks l ∧ q = .str z ∧ b = false) ∨ eqP p q = some b := by
  unfold eqQ at h
  split at h
  · cases h; exact .inl ⟨_, _, _, rfl, rfl, rfl⟩
  · exact .inr h
theorem opG_eq {X : Cx} : OpG X (fun x y H Q => (rEq x y H Q ∨ rEqD X.K x y H Q) ∨ rEqDS x y H Q) gEq := by
  intro W F H Q p q v u w rp rq h
  unfold gEq at h
  split at h
  · rename_i b e
    rcases eqQ_some e with ⟨ks, l, z, rfl, rfl, rfl⟩ | e
    · obtain ⟨a, us, rfl, h1, h2, _⟩ := rp_dct.mp rp
      exact .inr ⟨a, _, z, rfl, rp_str.mp rq, w _ _ h1, h F H _ (Ext.refl w) (rp_bl.mpr rfl)⟩
    · rcases eqP_some e with ⟨v', u', h1, h2, hs, rfl⟩ | e
      · rw [flV_of rp h1, flV_of rq h2]
        exact .inl (.inl ⟨hs, h F H _ (Ext.refl w) (rp_bl.mpr rfl)⟩)
      · obtain ⟨d1, d2, h1, h2, s1, s2, rfl⟩ := eqD_some e
        exact .inl (.inr ⟨d1, d2, dp_of w p rp h1, dp_of w q rq h2, s1, s2, h F H _ (Ext.refl w) (rp_bl.mpr rfl)⟩)
  · exact h.elim
theorem opG_ne {X : Cx} : OpG X (fun x y H Q => rNe x y H Q ∨ rNeD X.K x y H Q) gNe := by
  intro W F H Q p q v u w rp rq h
  unfold gNe at h
  split at h
  · rename_i b e
    rcases eqP_some e with ⟨v', u', h1, h2, hs, rfl⟩ | e
    · rw [flV_of rp h1, flV_of rq h2]
      exact .inl ⟨hs, h F H _ (Ext.refl w) (rp_bl.mpr rfl)⟩
    · obtain ⟨d1, d2, h1, h2, s1, s2, rfl⟩ := eqD_some e
      exact .inr ⟨d1, d2, dp_of w p rp h1, dp_of w q rq h2, s1, s2, h F H _ (Ext.refl w) (rp_bl.mpr rfl)⟩
  · exact h.elim
def isNon : PV → Bool
  | .non => true
  | _ => false
def gIs : PV → PV → R := fun p q => match q with
  | .non => .ok (.bl (isNon p))
  | _ => .fail
def gIsNot : PV → PV → R := fun p q => match q with
  | .non => .ok (.bl (!isNon p))
  | _ => .fail
theorem isNon_of {K : PySem.W.Frag} {mg : Str → Option Value} {F : Hp} {p : PV} {v : V} (h : Rp K mg F p v) : decide (v = .non) = isNon p := by
  cases p with
  | non => rw [rp_non.mp h]; rfl
  | bl b => rw [rp_bl.mp h]; rfl
  | int i => rw [rp_int.mp h]; rfl
  | str x => rw [rp_str.mp h]; rfl
  | tup l => obtain ⟨a, vs, rfl, _⟩ := rp_tup.mp h; rfl
  | lst l => obtain ⟨a, vs, rfl, _⟩ := rp_lst.mp h; rfl
  | ins c => obtain ⟨a, C, dx, rfl, _⟩ := rp_ins.mp h; rfl
  | exn c fs => obtain ⟨a, D, d, us, rfl, _⟩ := rp_exn.mp h; rfl
  | dct ks l => obtain ⟨a, us, rfl, _⟩ := rp_dct.mp h; rfl
theorem opG_is {X : Cx} : OpG X (fun x y H Q => y = .non ∧ Q (.bl (decide (x = .non))) H) gIs := by
  intro W F H Q p q v u w rp rq h
  unfold gIs at h
  split at h
  · exact ⟨rp_non.mp rq, h F H _ (Ext.refl w) (by rw [rp_bl, isNon_of rp])⟩
  · exact h.elim
theorem opG_isNot {X : Cx} : OpG X (fun x y H Q => y = .non ∧ Q (.bl (!decide (x = .non))) H) gIsNot := by
  intro W F H Q p q v u w rp rq h
  unfold gIsNot at h
  split at h
  · exact ⟨rp_non.mp rq, h F H _ (Ext.refl w) (by rw [rp_bl, isNon_of rp])⟩
  · exact h.elim
section
variable {X : Cx} {G : Hp × Hp} {W : WX} {a b : Expr} {fa fb : Lo → R} {pos : Pos}
theorem se_eq (hu : X.A.units + 64 < cLine) (ha : PE X a (tE X G W fa)) (hb : PE X b (tE X G W fb)) : PE X (.Compare a [.Eq] [b] pos) (tE X G W (e2 gEq fa fb)) := se_cmp ((op_eq.or (op_eqD hu)).or (op_eq_dstr (by omega))) opG_eq ha hb (nomark _)
theorem se_ne (hu : X.A.units + 64 < cLine) (ha : PE X a (tE X G W fa)) (hb : PE X b (tE X G W fb)) : PE X (.Compare a [.NotEq] [b] pos) (tE X G W (e2 gNe fa fb)) := se_cmp (op_ne.or (op_neD hu)) opG_ne ha hb (nomark _)
theorem st_eq (hu : X.A.units + 64 < cLine) (ha : PE X a (tE X G W fa)) (hb : PE X b (tE X G W fb)) : PT X (.Compare a [.Eq] [b] pos) (tT X G W (e2 gEq fa fb)) := st_cmp ((op_eq.or (op_eqD hu)).or (op_eq_dstr (by omega))) opG_eq ha hb (nomark _)
theorem st_ne (hu : X.A.units + 64 < cLine) (ha : PE X a (tE X G W fa)) (hb : PE X b (tE X G W fb)) : PT X (.Compare a [.NotEq] [b] pos) (tT X G W (e2 gNe fa fb)) := st_cmp (op_ne.or (op_neD hu)) opG_ne ha hb (nomark _)
theorem se_is (ha : PE X a (tE X G W fa)) (hb : PE X b (tE X G W fb)) : PE X (.Compare a [.Is] [b] pos) (tE X G W (e2 gIs fa fb)) := se_cmp op_isN opG_is ha hb (nomark _)
theorem se_isnot (ha : PE X a (tE X G W fa)) (hb : PE X b (tE X G W fb)) : PE X (.Compare a [.IsNot] [b] pos) (tE X G W (e2 gIsNot fa fb)) := se_cmp op_notN opG_isNot ha hb (nomark _)
theorem st_is (ha : PE X a (tE X G W fa)) (hb : PE X b (tE X G W fb)) : PT X (.Compare a [.Is] [b] pos) (tT X G W (e2 gIs fa fb)) := st_cmp op_isN opG_is ha hb (nomark _)
theorem st_isnot (ha : PE X a (tE X G W fa)) (hb : PE X b (tE X G W fb)) : PT X (.Compare a [.IsNot] [b] pos) (tT X G W (e2 gIsNot fa fb)) := st_cmp op_notN opG_isNot ha hb (nomark _)
end

/-! ### a < b < c -/
def eChain (g g' : PV → PV → R) (fa fb fc : Lo → R) : Lo → R := fun env => (fa env).bind fun p => (fb env).bind fun q => (g p q).bind fun k => match k with
  | .bl true => (fc env).bind fun r => g' q r
  | .bl false => .ok (.bl false)
  | _ => .fail
/-- an operation that gives a truth and leaves the heap -/
def OpT (X : Cx) (r : R2) (g : PV → PV → R) : Prop := ∀ (F H : Hp) (Q : VK) (p q : PV) (v u : V), Same F H → Rp X.K X.mg F p v → Rp X.K X.mg F q u → ∀ z, g p q = .ok z → ∃ b, z = .bl b ∧ (Q (.bl b) H → r v u H Q)
theorem opT_B0 {X : Cx} {g : Int → Int → Bool} : OpT X (rI0 fun i j => .bl (g i j)) (gI fun i j => .ok (.bl (g i j))) := by
  intro F H Q p q v u w rp rq z e
  unfold gI at e
  split at e
  · rename_i i j
    cases e
    exact ⟨g i j, rfl, fun h => ⟨i, j, rp_int.mp rp, rp_int.mp rq, h⟩⟩
  · cases e
section
variable {X : Cx} {G : Hp × Hp} {W : WX} {a b c : Expr} {fa fb fc : Lo → R} {pos : Pos}
theorem chain_ok {op op' : CmpOp} {r r' : R2} {g g' : PV → PV → R} (hg : OpT X r g) (hg0 : ∀ p q, (∃ z, g p q = .ok z) ∨ g p q = .fail) (hg' : OpG X r' g') {σ : L2.St} {H : Hp} {Q : VK} (h : tE X G W (eChain g g' fa fb fc) σ H Q) :
    tChain r r' (tE X G W fa) (tE X G W fb) (tE X G W fc) σ H Q := by
  obtain ⟨F, env, b, h⟩ := h
  refine tE_bind b h fun p v F1 H1 _ e1 b1 rp h1 => ?_
  refine tE_bind b1 h1 fun q u F2 H2 _ e2 b2 rq h2 => ?_
  have rp2 := rp.mono e2.f
  rcases hg0 p q with ⟨z, e⟩ | e
  · rw [e] at h2
    obtain ⟨k, rfl, t⟩ := hg F2 H2 (fun z H3 => ∃ k, z = .bl k ∧ (if k = true then tE X G W fc σ H3 fun w' H4 => r' u w' H4 Q else Q (.bl false) H3)) p q v u b2.w rp2 rq z e
    refine t ⟨k, rfl, ?_⟩
    cases k with
    | true =>
      rw [if_pos rfl]
      refine tE_bind b2 h2 fun x w' F3 H3 _ e3 b3 rx h3 => ?_
      exact hg' _ F3 H3 Q q x u w' b3.w (rq.mono e3.f) rx h3
    | false =>
      rw [if_neg (by decide)]
      exact h2 F2 H2 _ (Ext.refl b2.w) (rp_bl.mpr rfl)
  · rw [e] at h2
    exact h2.elim
theorem gI_or {f : Int → Int → Bool} : ∀ p q, (∃ z, gI (fun i j => .ok (.bl (f i j))) p q = .ok z) ∨ gI (fun i j => .ok (.bl (f i j))) p q = .fail := fun p q => by
  unfold gI
  split
  · exact .inl ⟨_, rfl⟩
  · exact .inr rfl
theorem se_lele (ha : PE X a (tE X G W fa)) (hb : PE X b (tE X G W fb)) (hc : PE X c (tE X G W fc)) (hm : lastMarks [.LtE, .LtE] [b, c] = false := by with_unfolding_all rfl) : PE X (.Compare a [.LtE, .LtE] [b, c] pos) (tE X G W (eChain gLe gLe fa fb fc)) :=
  PE_mono (pe_chain op_le op_le ha hb hc hm) fun _ _ _ h => chain_ok (op := .LtE) (op' := .LtE) opT_B0 gI_or opG_B0 h
theorem se_ltlt (ha : PE X a (tE X G W fa)) (hb : PE X b (tE X G W fb)) (hc : PE X c (tE X G W fc)) (hm : lastMarks [.Lt, .Lt] [b, c] = false := by with_unfolding_all rfl) : PE X (.Compare a [.Lt, .Lt] [b, c] pos) (tE X G W (eChain gLt gLt fa fb fc)) :=
  PE_mono (pe_chain op_lt op_lt ha hb hc hm) fun _ _ _ h => chain_ok (op := .Lt) (op' := .Lt) opT_B0 gI_or opG_B0 h
theorem st_lele (ha : PE X a (tE X G W fa)) (hb : PE X b (tE X G W fb)) (hc : PE X c (tE X G W fc)) (hm : lastMarks [.LtE, .LtE] [b, c] = false := by with_unfolding_all rfl) : PT X (.Compare a [.LtE, .LtE] [b, c] pos) (tT X G W (eChain gLe gLe fa fb fc)) :=
  PT_mono (pt_chain op_le op_le ha hb hc hm) fun _ _ _ h => chain_ok (op := .LtE) (op' := .LtE) opT_B0 gI_or opG_B0 h
theorem st_ltlt (ha : PE X a (tE X G W fa)) (hb : PE X b (tE X G W fb)) (hc : PE X c (tE X G W fc)) (hm : lastMarks [.Lt, .Lt] [b, c] = false := by with_unfolding_all rfl) : PT X (.Compare a [.Lt, .Lt] [b, c] pos) (tT X G W (eChain gLt gLt fa fb fc)) :=
  PT_mono (pt_chain op_lt op_lt ha hb hc hm) fun _ _ _ h => chain_ok (op := .Lt) (op' := .Lt) opT_B0 gI_or opG_B0 h
end
end Nf

namespace Nf
open PySem PySem.Spec PyProof.Rows L2

/-! ### and, or, not, if .. else -/
def eAnd (fa fb : Lo → R) : Lo → R := fun env => (fa env).bind fun p => match p with
  | .bl true => fb env
  | .bl false => .ok (.bl false)
  | _ => .fail
def eOr (fa fb : Lo → R) : Lo → R := fun env => (fa env).bind fun p => match p with
  | .bl true => .ok (.bl true)
  | .bl false => fb env
  | _ => .fail
def eNot (fa : Lo → R) : Lo → R := fun env => (fa env).bind fun p => match p with
  | .bl b => .ok (.bl (!b))
  | _ => .fail
def eIf (ft fa fb : Lo → R) : Lo → R := fun env => (ft env).bind fun p => match p with
  | .bl true => fa env
  | .bl false => fb env
  | _ => .fail
def truP : PV → R
  | .non => .ok (.bl false)
  | .bl b => .ok (.bl b)
  | .int i => .ok (.bl (i != 0))
  | .str y => if y.length ≤ 100000 then .ok (.bl ((y.length : Int) != 0)) else .fail
  | .tup l => .ok (.bl (!l.isEmpty))
  | .lst l => .ok (.bl (!l.isEmpty))
  | .ins _ => .fail
  | .exn _ _ => .fail
  | .dct _ _ => .fail
def eTru (fa : Lo → R) : Lo → R := fun env => (fa env).bind truP
theorem Rps.empty {K : PySem.W.Frag} {mg : Str → Option Value} {F : Hp} {ps : List PV} {vs : List V} (h : Rps K mg F ps vs) : (!vs.isEmpty) = !ps.isEmpty := by
  cases ps with
  | nil => simp only [Rps] at h; rw [h]; rfl
  | cons p ps => simp only [Rps] at h; obtain ⟨v, r, rfl, _⟩ := h; rfl

section
variable {X : Cx} {G : Hp × Hp} {W : WX} {a b c : Expr} {fa fb ft : Lo → R} {pos : Pos} {rest : List Expr}
theorem se_one {op} (h : PE X a (tE X G W fa)) : PE X (.BoolOp op [a] pos) (tE X G W fa) := pe_one h
theorem se_andB (ha : PE X a (tE X G W fa)) (hb : PE X (.BoolOp .And (b :: rest) pos) (tE X G W fb)) : PE X (.BoolOp .And (a :: b :: rest) pos) (tE X G W (eAnd fa fb)) := by
  refine PE_mono (pe_and ha hb) fun σ H Q h => ?_
  obtain ⟨F, env, br, h⟩ := h
  refine tE_bind br h fun p v F1 H1 _ e1 b1 rp h1 => ?_
  split at h1
  · exact ⟨true, rp_bl.mp rp, by rw [if_pos rfl]; exact ⟨F1, env, b1, h1⟩⟩
  · exact ⟨false, rp_bl.mp rp, by rw [if_neg (by decide)]; exact h1 F1 H1 _ (Ext.refl b1.w) (rp_bl.mpr rfl)⟩
  · exact h1.elim
theorem se_orB (ha : PE X a (tE X G W fa)) (hb : PE X (.BoolOp .Or (b :: rest) pos) (tE X G W fb)) : PE X (.BoolOp .Or (a :: b :: rest) pos) (tE X G W (eOr fa fb)) := by
  refine PE_mono (pe_or ha hb) fun σ H Q h => ?_
  obtain ⟨F, env, br, h⟩ := h
  refine tE_bind br h fun p v F1 H1 _ e1 b1 rp h1 => ?_
  split at h1
  · exact ⟨true, rp_bl.mp rp, by rw [if_pos rfl]; exact h1 F1 H1 _ (Ext.refl b1.w) (rp_bl.mpr rfl)⟩
  · exact ⟨false, rp_bl.mp rp, by rw [if_neg (by decide)]; exact ⟨F1, env, b1, h1⟩⟩
  · exact h1.elim
theorem se_not (ha : PE X a (tE X G W fa)) : PE X (.UnaryOp .Not a pos) (tE X G W (eNot fa)) := by
  refine PE_mono (pe_not ha) fun σ H Q h => ?_
  obtain ⟨F, env, br, h⟩ := h
  refine tE_bind br h fun p v F1 H1 _ e1 b1 rp h1 => ?_
  split at h1
  · exact ⟨_, rp_bl.mp rp, h1 F1 H1 _ (Ext.refl b1.w) (rp_bl.mpr rfl)⟩
  · exact h1.elim
/-- a test, then what is done with its answer -/
theorem tT_bind {fa : Lo → R} {g : PV → R} {σ : L2.St} {F H : Hp} {Q : VK} {P : Bool → Hp → Prop} {env : Lo}
    (b : BR X.K X.mg G F H σ env) (h : PostR X.K X.mg (fun c d H => W c d σ H) F H Q ((fa env).bind g))
    (hP : ∀ p v F' H', Ext F H F' H' → BR X.K X.mg G F' H' σ env → Rp X.K X.mg F' p v → PostR X.K X.mg (fun c d H => W c d σ H) F' H' Q (g p) → ∃ k, v = .bl k ∧ P k H') : tT X G W fa σ H P := by
  refine ⟨F, env, b, ?_⟩
  cases e : fa env with
  | ok p =>
    rw [e] at h
    exact fun F' H' v ex rv => hP p v F' H' ex (b.mono ex) rv (h.move ex)
  | exc x =>
    rw [e] at h
    exact h
  | fail =>
    rw [e] at h
    exact h
theorem st_not (ha : PT X a (tT X G W fa)) : PT X (.UnaryOp .Not a pos) (tT X G W (eNot fa)) := by
  refine PT_mono (pt_not ha) fun σ H Q h => ?_
  obtain ⟨F, env, br, h⟩ := h
  refine tT_bind (Q := fun v H' => ∃ b, v = .bl b ∧ Q b H') br h fun p v F1 H1 e1 b1 rp h1 => ?_
  split at h1
  · rename_i k
    obtain ⟨b', e, q⟩ := h1 F1 H1 _ (Ext.refl b1.w) (rp_bl.mpr rfl)
    cases e
    exact ⟨k, rp_bl.mp rp, q⟩
  · exact h1.elim
theorem sw_one {op} (h : PT X a (tT X G W fa)) (hp : op = .And ∨ op = .Or) : PW X (.BoolOp op [a] pos) (tT X G W fa) := by
  rcases hp with rfl | rfl
  · exact pw_and1 h
  · exact pw_or1 h
theorem sw_and (ha : PT X a (tT X G W fa)) (hb : PW X (.BoolOp .And (b :: rest) pos) (tT X G W fb)) : PW X (.BoolOp .And (a :: b :: rest) pos) (tT X G W (eAnd fa fb)) := by
  refine PW_mono (pw_and ha hb) fun σ H Q h => ?_
  obtain ⟨F, env, br, h⟩ := h
  refine tT_bind (Q := fun v H' => ∃ b, v = .bl b ∧ Q b H') br h fun p v F1 H1 e1 b1 rp h1 => ?_
  split at h1
  · exact ⟨true, rp_bl.mp rp, by rw [if_pos rfl]; exact ⟨F1, env, b1, h1⟩⟩
  · obtain ⟨b', e, q⟩ := h1 F1 H1 _ (Ext.refl b1.w) (rp_bl.mpr rfl)
    cases e
    exact ⟨false, rp_bl.mp rp, by rw [if_neg (by decide)]; exact q⟩
  · exact h1.elim
theorem sw_or (ha : PT X a (tT X G W fa)) (hb : PW X (.BoolOp .Or (b :: rest) pos) (tT X G W fb)) : PW X (.BoolOp .Or (a :: b :: rest) pos) (tT X G W (eOr fa fb)) := by
  refine PW_mono (pw_or ha hb) fun σ H Q h => ?_
  obtain ⟨F, env, br, h⟩ := h
  refine tT_bind (Q := fun v H' => ∃ b, v = .bl b ∧ Q b H') br h fun p v F1 H1 e1 b1 rp h1 => ?_
  split at h1
  · obtain ⟨b', e, q⟩ := h1 F1 H1 _ (Ext.refl b1.w) (rp_bl.mpr rfl)
    cases e
    exact ⟨true, rp_bl.mp rp, by rw [if_pos rfl]; exact q⟩
  · exact ⟨false, rp_bl.mp rp, by rw [if_neg (by decide)]; exact ⟨F1, env, b1, h1⟩⟩
  · exact h1.elim
theorem se_ifExp (hc : PT X c (tT X G W ft)) (ha : PE X a (tE X G W fa)) (hb : PE X b (tE X G W fb)) : PE X (.IfExp c a b pos) (tE X G W (eIf ft fa fb)) := by
  refine PE_mono (pe_ifExp hc ha hb) fun σ H Q h => ?_
  obtain ⟨F, env, br, h⟩ := h
  refine tT_bind br h fun p v F1 H1 e1 b1 rp h1 => ?_
  split at h1
  · exact ⟨true, rp_bl.mp rp, by rw [if_pos rfl]; exact ⟨F1, env, b1, h1⟩⟩
  · exact ⟨false, rp_bl.mp rp, by rw [if_neg (by decide)]; exact ⟨F1, env, b1, h1⟩⟩
  · exact h1.elim
theorem tru_of {K : PySem.W.Frag} {mg : Str → Option Value} {F H : Hp} {p : PV} {v : V} {z : PV} (w : Same F H) (rp : Rp K mg F p v) (h : truP p = .ok z) : ∃ k, z = .bl k ∧ TruV K v H k := by
  cases p with
  | non => rw [rp_non.mp rp]; cases h; exact ⟨false, rfl, rfl⟩
  | bl b => rw [rp_bl.mp rp]; cases h; exact ⟨b, rfl, rfl⟩
  | int i => rw [rp_int.mp rp]; cases h; exact ⟨_, rfl, rfl⟩
  | str y =>
    rw [rp_str.mp rp]
    unfold truP at h
    dsimp only at h
    split at h
    · rename_i hl
      cases h
      exact ⟨_, rfl, Nat.le_trans hl (by decide), rfl⟩
    · cases h
  | tup l =>
    obtain ⟨x, vs, rfl, h1, h2⟩ := rp_tup.mp rp
    cases h
    exact ⟨_, rfl, .inr (.inl ⟨vs, sqt_mono w h1, h2.empty.symm⟩)⟩
  | lst l =>
    obtain ⟨x, vs, rfl, h1, h2⟩ := rp_lst.mp rp
    cases h
    exact ⟨_, rfl, .inl ⟨vs, sql_mono w h1, h2.empty.symm⟩⟩
  | ins c => cases h
  | exn _ _ => cases h
  | dct _ _ => cases h
theorem st_tru (ha : PE X a (tE X G W fa)) (he : ∀ whole, isTrue a X.env whole = (do let v ← whole; standAt a.pos; holding [v] (truthy v)) := by intro _; rfl) : PT X a (tT X G W (eTru fa)) := by
  refine PT_mono (pt_truth ha he) fun σ H Q h => ?_
  obtain ⟨F, env, br, h⟩ := h
  refine tE_bind (Q := fun v H' => ∃ b, v = .bl b ∧ Q b H') br h fun p v F1 H1 _ e1 b1 rp h1 => ?_
  cases e : truP p with
  | ok z =>
    rw [e] at h1
    obtain ⟨k, rfl, t⟩ := tru_of b1.w rp e
    obtain ⟨b', e', q⟩ := h1 F1 H1 _ (Ext.refl b1.w) (rp_bl.mpr rfl)
    cases e'
    exact ⟨k, t, q⟩
  | exc x =>
    cases p <;> first | cases e | (unfold truP at e; dsimp only at e; split at e <;> cases e)
  | fail =>
    rw [e] at h1
    exact h1.elim
end

/-! ### argument lists, tuples, lists -/
def aN : Lo → RL := fun _ => .ok []
def aC (fa : Lo → R) (fr : Lo → RL) : Lo → RL := fun env => (fa env).bindL fun p => (fr env).bindL fun ps => .ok (p :: ps)
def eTup (fl : Lo → RL) : Lo → R := fun env => (fl env).bind fun ps => if ps.length ≤ 100000 then .ok (.tup ps) else .fail
def eLst (fl : Lo → RL) : Lo → R := fun env => (fl env).bind fun ps => if ps.length ≤ 100000 then .ok (.lst ps) else .fail
section
variable {X : Cx} {G : Hp × Hp} {W : WX} {e : Expr} {es : List Expr} {fa : Lo → R} {fl : Lo → RL} {pos : Pos}
theorem sa_nil : PA X [] (tA X G W aN) := PA_mono pa_nil fun σ H Q h => by
  obtain ⟨F, env, br, h⟩ := h
  exact h F H [] (Ext.refl br.w) (by simp only [Rps])
theorem sa_cons (ha : PE X e (tE X G W fa)) (hr : PA X es (tA X G W fl)) (hs : starEach (e :: es) X.env = (false, eval e X.env) :: starEach es X.env := by rfl) : PA X (e :: es) (tA X G W (aC fa fl)) := by
  refine PA_mono (pa_cons ha hr hs) fun σ H Q h => ?_
  obtain ⟨F, env, br, h⟩ := h
  refine ⟨F, env, br, ?_⟩
  unfold aC at h
  cases e1 : fa env with
  | fail => rw [e1] at h; exact h
  | exc x => rw [e1] at h; exact h
  | ok p =>
    rw [e1] at h
    intro F1 H1 v x1 rv
    refine ⟨F1, env, br.mono x1, ?_⟩
    cases e2 : fl env with
    | fail => rw [e2] at h; exact h
    | exc x => rw [e2] at h; exact h.move x1
    | ok ps =>
      rw [e2] at h
      intro F2 H2 vs x2 rvs
      refine h F2 H2 (v :: vs) (x1.trans x2) ?_
      simp only [Rps]
      exact ⟨v, vs, rfl, rv.mono x2.f, rvs⟩
theorem se_tup {x1} (h : PA X es (tA X G W fl)) : PE X (.Tuple es x1 pos) (tE X G W (eTup fl)) := by
  refine PE_mono (pe_tup h) fun σ H Q h => ?_
  obtain ⟨F, env, br, h⟩ := h
  refine tA_bind br h fun ps vs F1 H1 e1 b1 rp h1 => ?_
  split at h1
  · rename_i hl
    refine ⟨by rw [rp.len]; exact Nat.le_trans hl (by decide), fun p hp => ?_⟩
    have ex : Ext F1 H1 (upd F1 p (.tup vs)) (upd H1 p (.tup vs)) := Ext.new b1.w hp
    exact h1 _ _ _ ex (rp_tup.mpr ⟨p, vs, rfl, .inl (.inl upd_same), rp.mono ex.f⟩)
  · exact h1.elim
theorem se_lst (h : PA X es (tA X G W fl)) : PE X (.List es pos) (tE X G W (eLst fl)) := by
  refine PE_mono (pe_lst h) fun σ H Q h => ?_
  obtain ⟨F, env, br, h⟩ := h
  refine tA_bind br h fun ps vs F1 H1 e1 b1 rp h1 => ?_
  split at h1
  · rename_i hl
    refine ⟨by rw [rp.len]; exact Nat.le_trans hl (by decide), fun p hp => ?_⟩
    have ex : Ext F1 H1 (upd F1 p (.lst vs)) (upd H1 p (.lst vs)) := Ext.new b1.w hp
    exact h1 _ _ _ ex (rp_lst.mpr ⟨p, vs, rfl, .inl (.inl upd_same), rp.mono ex.f⟩)
  · exact h1.elim
end

/-! ### subscripts -/
def gIx : PV → PV → R := fun p q => match p, q with
  | .tup l, .int i => match atI l i with
    | some z => .ok z
    | none => .fail
  | .lst l, .int i => match atI l i with
    | some z => .ok z
    | none => .fail
  | .str x, .int i => if x.length ≤ 100000 then match atI x.cps.toList i with
      | some c => .ok (.str ⟨#[c]⟩)
      | none => .fail
    else .fail
  | _, _ => .fail
theorem rps_atI {K : PySem.W.Frag} {mg : Str → Option Value} {F : Hp} {ps : List PV} {vs : List V} {i : Int} {z : PV} (h : Rps K mg F ps vs) (e : atI ps i = some z) : ∃ v, atI vs i = some v ∧ Rp K mg F z v := by
  unfold atI at e ⊢
  rw [h.len]
  cases q : ixN ps.length i with
  | none => rw [q] at e; cases e
  | some j =>
    rw [q] at e
    exact h.get e
theorem opG_ix {X : Cx} : OpG X (rIx X.K) gIx := by
  intro W F H Q p q v u w rp rq h
  unfold gIx at h
  split at h
  · rename_i l i
    obtain ⟨a, vs, rfl, h1, h2⟩ := rp_tup.mp rp
    split at h
    · rename_i z e
      obtain ⟨v, e1, r1⟩ := rps_atI h2 e
      exact .inr (.inl ⟨a, vs, i, v, rfl, rp_int.mp rq, sqt_mono w h1, e1, h F H v (Ext.refl w) r1⟩)
    · exact h.elim
  · rename_i l i
    obtain ⟨a, vs, rfl, h1, h2⟩ := rp_lst.mp rp
    split at h
    · rename_i z e
      obtain ⟨v, e1, r1⟩ := rps_atI h2 e
      exact .inl ⟨a, vs, i, v, rfl, rp_int.mp rq, sql_mono w h1, e1, h F H v (Ext.refl w) r1⟩
    · exact h.elim
  · rename_i x i
    split at h
    · rename_i hl
      split at h
      · rename_i c e
        exact .inr (.inr ⟨x, i, c, rp_str.mp rp, rp_int.mp rq, Nat.le_trans hl (by decide), e, h F H _ (Ext.refl w) (rp_str.mpr rfl)⟩)
      · exact h.elim
    · exact h.elim
  · exact h.elim
section
variable {X : Cx} {G : Hp × Hp} {W : WX} {a b : Expr} {fa fb : Lo → R} {pos : Pos}
theorem se_ix (ha : PE X a (tE X G W fa)) (hb : PE X b (tE X G W fb)) (hs : PlainIx b := by exact fun _ _ => rfl) : PE X (.Subscript a b pos) (tE X G W (e2 gIx fa fb)) :=
  PE_mono (pe_ix ix_seq ha hb hs) fun _ _ _ h => op2 opG_ix h
end

/-! ### unary operators -/
def e1 (g : PV → R) (fa : Lo → R) : Lo → R := fun env => (fa env).bind g
def gNeg : PV → R
  | .int i => .ok (.int (-i))
  | _ => .fail
section
variable {X : Cx} {G : Hp × Hp} {W : WX} {a b : Expr} {fa fb : Lo → R} {pos : Pos}
theorem se_neg (ha : PE X a (tE X G W fa)) : PE X (.UnaryOp .USub a pos) (tE X G W (e1 gNeg fa)) := by
  refine PE_mono (pe_un un_neg ha) fun σ H Q h => ?_
  obtain ⟨F, env, br, h⟩ := h
  refine tE_bind br h fun p v F1 H1 _ e1 b1 rp h1 => ?_
  cases p <;> first
    | exact ⟨_, rp_int.mp rp, h1 F1 H1 _ (Ext.refl b1.w) (rp_int.mpr rfl)⟩
    | exact h1.elim
end

/-! ### calls of built-ins -/
def eB (g : List PV → R) (fl : Lo → RL) : Lo → R := fun env => (fl env).bind g
def CallG (X : Cx) (r : List V → Hp → VK → Prop) (g : List PV → R) : Prop := ∀ (W : Value → Option Addr → Hp → Prop) (F H : Hp) (Q : VK) (ps : List PV) (vs : List V), Same F H → Rps X.K X.mg F ps vs → PostR X.K X.mg W F H Q (g ps) → r vs H Q
section
variable {X : Cx} {G : Hp × Hp} {W : WX} {e : Expr} {es : List Expr} {fl : Lo → RL} {x : Str} {p pos : Pos}
theorem se_B {id : String} {r : List V → Hp → VK → Prop} {g : List PV → R} (hc : CallR X (.builtin id) r) (hg : CallG X r g) (hgl : Gl X x) (hm : X.mg x = none) (hv : bootBuiltins x = some (.builtin id)) (ha : PA X (e :: es) (tA X G W fl)) (hn : x ≠ "__name__" := by decide) (hdb : (x == ("__debug__" : Str)) = false := by decide)
    (he : starEach (e :: es) X.env = (false, eval e X.env) :: starEach es X.env := by rfl) (hpl : (backTo pos (starEach es X.env)).any (·.1) = false := by rfl) : PE X (.Call (.Name x p) (e :: es) [] pos) (tE X G W (eB g fl)) :=
  PE_mono (pe_callB hc hgl hm hv ha hn hdb he hpl) fun σ H Q ⟨F, env, br, h⟩ => tA_bind br h fun ps vs F1 H1 e1 b1 rp h1 => hg _ F1 H1 Q ps vs b1.w rp h1
theorem se_T {id : String} {r : List V → Hp → VK → Prop} {g : List PV → R} (hc : CallR X (.type id) r) (hg : CallG X r g) (hgl : Gl X x) (hm : X.mg x = none) (hv : bootBuiltins x = some (.type id)) (ha : PA X (e :: es) (tA X G W fl)) (hn : x ≠ "__name__" := by decide) (hdb : (x == ("__debug__" : Str)) = false := by decide)
    (he : starEach (e :: es) X.env = (false, eval e X.env) :: starEach es X.env := by rfl) (hpl : (backTo pos (starEach es X.env)).any (·.1) = false := by rfl) : PE X (.Call (.Name x p) (e :: es) [] pos) (tE X G W (eB g fl)) :=
  PE_mono (pe_callTy hc hgl hm hv ha hn hdb he hpl) fun σ H Q ⟨F, env, br, h⟩ => tA_bind br h fun ps vs F1 H1 e1 b1 rp h1 => hg _ F1 H1 Q ps vs b1.w rp h1
end
section
variable {K : PySem.W.Frag} {mg : Str → Option Value} {F : Hp}
theorem rps1 {p : PV} {vs : List V} (h : Rps K mg F [p] vs) : ∃ v, vs = [v] ∧ Rp K mg F p v := by
  simp only [Rps] at h
  obtain ⟨v, r, rfl, h1, rfl⟩ := h
  exact ⟨v, rfl, h1⟩
theorem rps2 {p q : PV} {vs : List V} (h : Rps K mg F [p, q] vs) : ∃ v u, vs = [v, u] ∧ Rp K mg F p v ∧ Rp K mg F q u := by
  simp only [Rps] at h
  obtain ⟨v, r, rfl, h1, u, r', rfl, h2, rfl⟩ := h
  exact ⟨v, u, rfl, h1, h2⟩
end
def gLen : List PV → R
  | [.str y] => if y.length ≤ 100000 then .ok (.int y.length) else .fail
  | [.tup l] => .ok (.int l.length)
  | [.lst l] => .ok (.int l.length)
  | _ => .fail
theorem callG_len {X : Cx} : CallG X (fun xs H Q => ∃ x n, xs = [x] ∧ LenV X.K x H n ∧ Q (.int n) H) gLen := by
  intro W F H Q ps vs w rp h
  unfold gLen at h
  split at h
  · obtain ⟨v, rfl, r⟩ := rps1 rp
    split at h
    · rename_i y hl
      rw [rp_str] at r
      subst r
      exact ⟨_, _, rfl, ⟨Nat.le_trans hl (by decide), rfl⟩, h F H _ (Ext.refl w) (rp_int.mpr rfl)⟩
    · exact h.elim
  · obtain ⟨v, rfl, r⟩ := rps1 rp
    obtain ⟨a, vs, rfl, h1, h2⟩ := rp_tup.mp r
    exact ⟨_, _, rfl, .inr ⟨vs, sqt_mono w h1, h2.len.symm⟩, h F H _ (Ext.refl w) (rp_int.mpr rfl)⟩
  · obtain ⟨v, rfl, r⟩ := rps1 rp
    obtain ⟨a, vs, rfl, h1, h2⟩ := rp_lst.mp r
    exact ⟨_, _, rfl, .inl ⟨vs, sql_mono w h1, h2.len.symm⟩, h F H _ (Ext.refl w) (rp_int.mpr rfl)⟩
  · exact h.elim
def gAbs : List PV → R
  | [.int i] => .ok (.int (if i < 0 then -i else i))
  | _ => .fail
theorem callG_abs {X : Cx} : CallG X (fun xs H Q => ∃ i, xs = [.int i] ∧ Q (.int (if i < 0 then -i else i)) H) gAbs := by
  intro W F H Q ps vs w rp h
  unfold gAbs at h
  split at h
  · obtain ⟨v, rfl, r⟩ := rps1 rp
    rw [rp_int] at r
    subst r
    exact ⟨_, rfl, h F H _ (Ext.refl w) (rp_int.mpr rfl)⟩
  · exact h.elim
def gMax : List PV → R
  | [.int i, .int j] => .ok (.int (if j > i then j else i))
  | _ => .fail
theorem callG_max {X : Cx} : CallG X (fun xs H Q => ∃ i j, xs = [.int i, .int j] ∧ Q (.int (if j > i then j else i)) H) gMax := by
  intro W F H Q ps vs w rp h
  unfold gMax at h
  split at h
  · obtain ⟨v, u, rfl, r, r'⟩ := rps2 rp
    rw [rp_int] at r r'
    subst r r'
    exact ⟨_, _, rfl, h F H _ (Ext.refl w) (rp_int.mpr rfl)⟩
  · exact h.elim
def gMin : List PV → R
  | [.int i, .int j] => .ok (.int (if j < i then j else i))
  | _ => .fail
theorem callG_min {X : Cx} : CallG X (fun xs H Q => ∃ i j, xs = [.int i, .int j] ∧ Q (.int (if j < i then j else i)) H) gMin := by
  intro W F H Q ps vs w rp h
  unfold gMin at h
  split at h
  · obtain ⟨v, u, rfl, r, r'⟩ := rps2 rp
    rw [rp_int] at r r'
    subst r r'
    exact ⟨_, _, rfl, h F H _ (Ext.refl w) (rp_int.mpr rfl)⟩
  · exact h.elim
def gInt : List PV → R
  | [.int i] => .ok (.int i)
  | [.bl k] => .ok (.int (if k then 1 else 0))
  | _ => .fail
theorem callG_int {X : Cx} : CallG X (fun xs H Q => (∃ i, xs = [.int i] ∧ Q (.int i) H) ∨ ∃ k, xs = [.bl k] ∧ Q (.int (if k then 1 else 0)) H) gInt := by
  intro W F H Q ps vs w rp h
  unfold gInt at h
  split at h
  · obtain ⟨v, rfl, r⟩ := rps1 rp
    rw [rp_int] at r
    subst r
    exact .inl ⟨_, rfl, h F H _ (Ext.refl w) (rp_int.mpr rfl)⟩
  · obtain ⟨v, rfl, r⟩ := rps1 rp
    rw [rp_bl] at r
    subst r
    exact .inr ⟨_, rfl, h F H _ (Ext.refl w) (rp_int.mpr rfl)⟩
  · exact h.elim
def gDivmod : List PV → R
  | [.int i, .int j] => if CDivG i j then .ok (.tup [.int (i.fdiv j), .int (i.fmod j)]) else .fail
  | _ => .fail
theorem call_divmodG {X : Cx} : CallR X (.builtin "divmod") (fun xs H Q => ∃ i j, xs = [.int i, .int j] ∧ CDivG i j ∧ ∀ p, H p = none → Q (.ref p) (upd H p (.tup [.int (i.fdiv j), .int (i.fmod j)]))) := by
  intro pins s σ H xs us Q I r h
  obtain ⟨i, j, e0, hc, q⟩ := h
  subst e0
  obtain ⟨u, w', e1, ⟨t, e2⟩, ⟨t', e3⟩⟩ := vals2 r
  subst e1 e2 e3
  have hn : H s.heap.objs.size = none := I.hok.fresh (Nat.le_refl _)
  refine divmod_int hc.1 ⟨.ref s.heap.objs.size, _, ?_, rfl, q _ hn⟩ (.inl hc.2)
  refine I.laid (fun b o e => Heap.get?_push_of_some _ e) (Nat.le_refl _) ⟨?_, [.int (i.fdiv j) s.toks, .int (i.fmod j) (s.toks + 1)], .cons ⟨_, rfl⟩ (.cons ⟨_, rfl⟩ .nil), ⟨_, Heap.get?_push_size s.heap rfl, rfl, 0, rfl⟩⟩
  show 2 ≤ sizeLine
  decide
theorem callG_divmod {X : Cx} : CallG X (fun xs H Q => ∃ i j, xs = [.int i, .int j] ∧ CDivG i j ∧ ∀ p, H p = none → Q (.ref p) (upd H p (.tup [.int (i.fdiv j), .int (i.fmod j)]))) gDivmod := by
  intro W F H Q ps vs w rp h
  unfold gDivmod at h
  split at h
  · rename_i i j
    obtain ⟨v, u, rfl, r, r'⟩ := rps2 rp
    rw [rp_int] at r r'
    subst r r'
    split at h
    · rename_i hc
      refine ⟨_, _, rfl, hc, fun p hp => ?_⟩
      have ex := Ext.new (o := .tup [.int (i.fdiv j), .int (i.fmod j)]) w hp
      exact h _ _ _ ex (rp_tup.mpr ⟨p, _, rfl, .inl (.inl upd_same), by simp only [Rps, Rp]; exact ⟨_, _, rfl, rfl, _, _, rfl, rfl, rfl⟩⟩)
    · exact h.elim
  · exact h.elim
section
variable {X : Cx} {G : Hp × Hp} {W : WX} {e : Expr} {es : List Expr} {fl : Lo → RL} {x : Str} {p pos : Pos}
theorem se_len (hgl : Gl X "len") (hm : X.mg "len" = none) (ha : PA X (e :: es) (tA X G W fl)) (he : starEach (e :: es) X.env = (false, eval e X.env) :: starEach es X.env := by rfl) (hpl : (backTo pos (starEach es X.env)).any (·.1) = false := by rfl) :
    PE X (.Call (.Name "len" p) (e :: es) [] pos) (tE X G W (eB gLen fl)) := se_B call_len callG_len hgl hm PySem.boot_len ha (by decide) (by decide) he hpl
theorem se_abs (hgl : Gl X "abs") (hm : X.mg "abs" = none) (ha : PA X (e :: es) (tA X G W fl)) (he : starEach (e :: es) X.env = (false, eval e X.env) :: starEach es X.env := by rfl) (hpl : (backTo pos (starEach es X.env)).any (·.1) = false := by rfl) :
    PE X (.Call (.Name "abs" p) (e :: es) [] pos) (tE X G W (eB gAbs fl)) := se_B call_abs callG_abs hgl hm (by decide +kernel) ha (by decide) (by decide) he hpl
theorem se_max (hc : X.calm = true) (hgl : Gl X "max") (hm : X.mg "max" = none) (ha : PA X (e :: es) (tA X G W fl)) (he : starEach (e :: es) X.env = (false, eval e X.env) :: starEach es X.env := by rfl) (hpl : (backTo pos (starEach es X.env)).any (·.1) = false := by rfl) :
    PE X (.Call (.Name "max" p) (e :: es) [] pos) (tE X G W (eB gMax fl)) := se_B (call_max2 hc) callG_max hgl hm (by decide +kernel) ha (by decide) (by decide) he hpl
theorem se_min (hc : X.calm = true) (hgl : Gl X "min") (hm : X.mg "min" = none) (ha : PA X (e :: es) (tA X G W fl)) (he : starEach (e :: es) X.env = (false, eval e X.env) :: starEach es X.env := by rfl) (hpl : (backTo pos (starEach es X.env)).any (·.1) = false := by rfl) :
    PE X (.Call (.Name "min" p) (e :: es) [] pos) (tE X G W (eB gMin fl)) := se_B (call_min2 hc) callG_min hgl hm (by decide +kernel) ha (by decide) (by decide) he hpl
theorem se_intC (hgl : Gl X "int") (hm : X.mg "int" = none) (ha : PA X (e :: es) (tA X G W fl)) (he : starEach (e :: es) X.env = (false, eval e X.env) :: starEach es X.env := by rfl) (hpl : (backTo pos (starEach es X.env)).any (·.1) = false := by rfl) :
    PE X (.Call (.Name "int" p) (e :: es) [] pos) (tE X G W (eB gInt fl)) := se_T call_int1 callG_int hgl hm (by decide +kernel) ha (by decide) (by decide) he hpl
theorem se_divmod (hgl : Gl X "divmod") (hm : X.mg "divmod" = none) (ha : PA X (e :: es) (tA X G W fl)) (he : starEach (e :: es) X.env = (false, eval e X.env) :: starEach es X.env := by rfl) (hpl : (backTo pos (starEach es X.env)).any (·.1) = false := by rfl) :
    PE X (.Call (.Name "divmod" p) (e :: es) [] pos) (tE X G W (eB gDivmod fl)) := se_B call_divmodG callG_divmod hgl hm (by decide +kernel) ha (by decide) (by decide) he hpl
end

/-! ### isinstance(x, T), T a built-in class -/
def tyN : PV → Option String
  | .non => some "NoneType"
  | .bl _ => some "bool"
  | .int _ => some "int"
  | .str _ => some "str"
  | .tup _ => some "tuple"
  | .lst _ => some "list"
  | .ins _ => none
  | .exn _ _ => none
  | .dct _ _ => none
def eIsi (T : String) (fa : Lo → R) : Lo → R := e1 (fun p => match tyN p with
  | some t => match kitB t T with
    | some b => .ok (.bl b)
    | none => .fail
  | none => .fail) fa
theorem tyX_lst {K : PySem.W.Frag} {H : Hp} {a : Addr} {xs : List V} (h : SqL K H a xs) : TyX K H (.ref a) (.type "list") := by
  rcases h with (h | ⟨o, h⟩) | ⟨o, its, n, h, c, _⟩
  · exact .base (.lst h)
  · exact .base (.frz h)
  · exact .kList h c
theorem tyX_tup {K : PySem.W.Frag} {H : Hp} {a : Addr} {xs : List V} (h : SqT K H a xs) : TyX K H (.ref a) (.type "tuple") := by
  rcases h with (h | ⟨o, h⟩) | ⟨o, its, n, h, c, _⟩
  · exact .base (.tup h)
  · exact .fTuple h
  · exact .kTuple h c
theorem tyX_of {K : PySem.W.Frag} {mg : Str → Option Value} {F H : Hp} (w : Same F H) {p : PV} {v : V} {t : String} (rp : Rp K mg F p v) (e : tyN p = some t) : TyX K H v (.type t) := by
  cases p with
  | non => cases e; rw [rp_non.mp rp]; exact .base .non
  | bl b => cases e; rw [rp_bl.mp rp]; exact .base (.bl b)
  | int i => cases e; rw [rp_int.mp rp]; exact .base (.int i)
  | str x => cases e; rw [rp_str.mp rp]; exact .base (.str x)
  | tup l => cases e; obtain ⟨a, vs, rfl, h1, _⟩ := rp_tup.mp rp; exact tyX_tup (sqt_mono w h1)
  | lst l => cases e; obtain ⟨a, vs, rfl, h1, _⟩ := rp_lst.mp rp; exact tyX_lst (sql_mono w h1)
  | ins c => cases e
  | exn c fs => cases e
  | dct _ _ => cases e
section
variable {X : Cx} {G : Hp × Hp} {W : WX} {a : Expr} {fa : Lo → R} {p p2 pos : Pos}
theorem se_isi {T : Str} {N : String} (hgl : Gl X "isinstance") (hm : X.mg "isinstance" = none) (hgT : Gl X T) (hmT : X.mg T = none) (hv : bootBuiltins T = some (.type N)) (ha : PE X a (tE X G W fa)) (hn : T ≠ "__name__" := by decide) (hdb : (T == ("__debug__" : Str)) = false := by decide)
    (he : starEach [a, .Name T p2] X.env = (false, eval a X.env) :: starEach [.Name T p2] X.env := by rfl) (he2 : starEach [.Name T p2] X.env = [(false, eval (.Name T p2) X.env)] := by rfl) (hpl : (backTo pos (starEach [.Name T p2] X.env)).any (·.1) = false := by rfl) :
    PE X (.Call (.Name "isinstance" p) [a, .Name T p2] [] pos) (tE X G W (eIsi N fa)) := by
  refine PE_mono (pe_callB call_isi hgl hm (by decide +kernel) (pa_cons ha (pa_cons (pe_bltn (v := .ty N) hgT hmT hv rfl hn hdb) pa_nil he2) he) (by decide) (by decide) he hpl) fun σ H Q h => ?_
  obtain ⟨F, env, br, h⟩ := h
  refine tE_bind br h fun q v F1 H1 _ e1 b1 rp h1 => ?_
  split at h1
  · rename_i t e
    split at h1
    · rename_i k e'
      exact ⟨v, .ty N, .type t, .type N, k, rfl, .ty N, tyX_of b1.w rp e, kit_ty e', h1 F1 H1 _ (Ext.refl b1.w) (rp_bl.mpr rfl)⟩
    · exact h1.elim
  · exact h1.elim
end
end Nf

namespace Nf
open PySem PySem.Spec PyProof.Rows L2

/-! ### statements -/
def sNop : Lo → Fl := fun env => .nx env
def sSeq (s t : Lo → Fl) : Lo → Fl := fun env => match s env with
  | .nx e => t e
  | r => r
def sSet (i : Nat) (f : Lo → R) : Lo → Fl := fun env => (f env).go env fun p => .nx (env.set i (Slot.val p))
def sRet (f : Lo → R) : Lo → Fl := fun env => (f env).go env fun p => .rt p
def sDrop (f : Lo → R) : Lo → Fl := fun env => (f env).go env fun _ => .nx env
def sIf (ft : Lo → R) (s t : Lo → Fl) : Lo → Fl := fun env => (ft env).go env fun p => match p with
  | .bl true => s env
  | .bl false => t env
  | _ => .fail
def sNew (i : Nat) (fl : Lo → RL) : Lo → Fl := fun env => (fl env).go env fun ps => if ps.length ≤ 100000 then .nx (env.set i (Slot.own ps)) else .fail
def sApp (i : Nat) (f : Lo → R) : Lo → Fl := fun env => match env[i]? with
  | some (.ow .none l) => (f env).go env fun p => if l.length < 100000 then .nx (env.set i (Slot.own (l ++ [p]))) else .fail
  | _ => .fail
def sFrz (i : Nat) (s : Lo → Fl) : Lo → Fl := fun env => match env[i]? with
  | some (.ow .none l) => s (env.set i (Slot.val (.lst l)))
  | some (.ow (.some ks) l) => s (env.set i (Slot.val (.dct ks l)))
  | _ => s env
def setMany : List Nat → List PV → Lo → Lo
  | i :: is, p :: ps, env => setMany is ps (env.set i (Slot.val p))
  | _, _, env => env
/-- targets: one name, a tuple of names -/
def gOne (i : Nat) : PV → Lo → Option Lo := fun p env => some (env.set i (Slot.val p))
def gMany (is : List Nat) : PV → Lo → Option Lo := fun p env => match p with
  | .tup l => if l.length = is.length then some (setMany is l env) else none
  | .lst l => if l.length = is.length then some (setMany is l env) else none
  | _ => none
def sTgt (g : PV → Lo → Option Lo) (f : Lo → R) : Lo → Fl := fun env => (f env).go env fun p => match g p env with
  | some e => .nx e
  | none => .fail
def sRaise (c : Str) : Lo → Fl := fun env => .exc ⟨c, none⟩ env
def sBrk : Lo → Fl := fun env => .bk env
def sCnt : Lo → Fl := fun env => .ct env

section
variable {X : Cx} {G : Hp × Hp} {W : WX} {e : Expr} {es : List Expr} {f ft : Lo → R} {fl : Lo → RL} {s t : Lo → Fl} {st : Stmt} {rest : List Stmt} {pos : Pos}
theorem ss_nil : PSs X [] (tSt X G W sNop) := PSs_mono pss_nil fun D σ H h => by
  obtain ⟨F, env, br, h⟩ := h
  exact h F H σ (Same.refl F) br
theorem ss_cons (h1 : PS X st (tSt X G W s)) (h2 : PSs X rest (tSt X G W t)) : PSs X (st :: rest) (tSt X G W (sSeq s t)) := by
  refine PSs_mono (pss_cons h1 h2) fun D σ H h => ?_
  obtain ⟨F, env, br, h⟩ := h
  refine ⟨F, env, br, ?_⟩
  unfold sSeq at h
  cases e1 : s env with
  | nx e =>
    rw [e1] at h
    exact fun F' H' σ' sm b => ⟨F', e, b, h.move sm⟩
  | rt p => rw [e1] at h; exact h
  | bk e => rw [e1] at h; exact h
  | ct e => rw [e1] at h; exact h
  | exc x e => rw [e1] at h; exact h
  | fail => rw [e1] at h; exact h
theorem ss_one (h1 : PS X st (tSt X G W s)) : PSs X [st] (tSt X G W s) := pss_one h1
theorem ss_pass : PS X (.Pass pos) (tSt X G W sNop) := PS_mono ps_pass fun D σ H h => by
  obtain ⟨F, env, br, h⟩ := h
  exact h F H σ (Same.refl F) br
theorem ss_brk : PS X (.Break pos) (tSt X G W sBrk) := PS_mono ps_break fun D σ H h => by
  obtain ⟨F, env, br, h⟩ := h
  exact h F H σ (Same.refl F) br
theorem ss_cnt : PS X (.Continue pos) (tSt X G W sCnt) := PS_mono ps_continue fun D σ H h => by
  obtain ⟨F, env, br, h⟩ := h
  exact h F H σ (Same.refl F) br
theorem ss_ret (he : PE X e (tE X G W f)) : PS X (.Return (some e) pos) (tSt X G W (sRet f)) := by
  refine PS_mono (ps_ret he) fun D σ H h => ?_
  obtain ⟨F, env, br, h⟩ := h
  exact tE_go br h fun p v F1 H1 _ e1 b1 rp h1 => h1 F1 H1 v b1.ext rp
theorem ss_drop (he : PE X e (tE X G W f)) (hs : swapsWith e none pos.line X.env = pure false := by rfl) : PS X (.Expr e pos) (tSt X G W (sDrop f)) := by
  refine PS_mono (ps_expr he hs) fun D σ H h => ?_
  obtain ⟨F, env, br, h⟩ := h
  exact tE_go br h fun p v F1 H1 _ e1 b1 rp h1 => h1 F1 H1 σ (Same.refl F1) b1
theorem ss_if {c : Expr} {a b : List Stmt} (hc : PT X c (tT X G W ft)) (ha : PSs X a (tSt X G W s)) (hb : PSs X b (tSt X G W t)) : PS X (.If c a b pos) (tSt X G W (sIf ft s t)) := by
  refine PS_mono (ps_if hc ha hb) fun D σ H h => ?_
  obtain ⟨F, env, br, h⟩ := h
  refine tT_go br h fun p v F1 H1 e1 b1 rp h1 => ?_
  split at h1
  · exact ⟨true, rp_bl.mp rp, by rw [if_pos rfl]; exact ⟨F1, env, b1, h1⟩⟩
  · exact ⟨false, rp_bl.mp rp, by rw [if_neg (by decide)]; exact ⟨F1, env, b1, h1⟩⟩
  · exact h1.elim
theorem ss_set (i : Nat) {x : Str} {pos' : Pos} (hN : X.N.Nodup) (he : PE X e (tE X G W f)) (hi : X.N[i]? = some x := by rfl) (hx : Loc X.env.scope x := by first | exact Or.inl rfl | exact Or.inr rfl) (hs : swapsWith e (some (.Name x pos')) pos.line X.env = pure false := by rfl) (hf : X.fn x = true ∨ X.env.scope.names.lookup x = some .local := by first | exact .inl rfl | exact .inr rfl) :
    PS X (.Assign [.Name x pos'] e pos) (tSt X G W (sSet i f)) := by
  refine PS_mono (ps_set hN hi hx he hs hf) fun D σ H h => ?_
  obtain ⟨F, env, br, h⟩ := h
  exact tE_go br h fun p v F1 H1 _ e1 b1 rp h1 => h1 F1 H1 _ (Same.refl F1) (b1.set rp)
theorem tA_go {g : List PV → Fl} {σ : L2.St} {F H : Hp} {D : Ends} {P : List V → Hp → Prop} {env : Lo}
    (b : BR X.K X.mg G F H σ env) (h : PostS X.K X.mg G W F D ((fl env).go env g))
    (hP : ∀ p v F' H', Ext F H F' H' → BR X.K X.mg G F' H' σ env → Rps X.K X.mg F' p v → PostS X.K X.mg G W F' D (g p) → P v H') : tA X G W fl σ H P := by
  refine ⟨F, env, b, ?_⟩
  cases e : fl env with
  | ok p =>
    rw [e] at h
    exact fun F' H' v ex rv => hP p v F' H' ex (b.mono ex) rv (h.move ex.f)
  | exc x =>
    rw [e] at h
    exact fun F' H' c d ex rx => h F' H' σ c d ex.f (b.mono ex) rx
  | fail =>
    rw [e] at h
    exact h
theorem ss_new (i : Nat) {x : Str} {pos' p2 : Pos} (hN : X.N.Nodup) (he : PA X es (tA X G W fl)) (hi : X.N[i]? = some x := by rfl) (hx : Loc X.env.scope x := by first | exact Or.inl rfl | exact Or.inr rfl) (hs : swapsWith (.List es p2) (some (.Name x pos')) pos.line X.env = pure false := by rfl) (hf : X.fn x = true ∨ X.env.scope.names.lookup x = some .local := by first | exact .inl rfl | exact .inr rfl) :
    PS X (.Assign [.Name x pos'] (.List es p2) pos) (tSt X G W (sNew i fl)) := by
  refine PS_mono (ps_set hN hi hx (pe_lst he) hs hf) fun D σ H h => ?_
  obtain ⟨F, env, br, h⟩ := h
  refine tA_go br h fun ps vs F1 H1 e1 b1 rp h1 => ?_
  split at h1
  · rename_i hl
    refine ⟨by rw [rp.len]; exact Nat.le_trans hl (by decide), fun a ha => ?_⟩
    exact h1 F1 _ _ (Same.refl F1) (b1.setOwn rp ha)
  · exact h1.elim
theorem ss_frz (i : Nat) (h : PS X st (tSt X G W s)) : PS X st (tSt X G W (sFrz i s)) := by
  refine PS_mono h fun D σ H h => ?_
  obtain ⟨F, env, br, h⟩ := h
  unfold sFrz at h
  split at h
  · rename_i l e
    obtain ⟨F', sm, b'⟩ := br.freeze e
    exact ⟨F', _, b', h.move sm⟩
  · rename_i ks l e
    obtain ⟨F', sm, b'⟩ := br.freeze e
    exact ⟨F', _, b', h.move sm⟩
  · exact ⟨F, env, br, h⟩
theorem ss_app (i : Nat) {x : Str} {p1 p2 p3 : Pos} {e : Expr} (he : PE X e (tE X G W f)) (hi : X.N[i]? = some x := by rfl) (hv : Vis X.env.scope x := by first | exact Or.inl rfl | exact Or.inr (Or.inl rfl) | exact Or.inr (Or.inr rfl)) (hd : (x == ("__debug__" : Str)) = false := by decide)
    (hcd : (x == ("__classdict__" : Str)) = false := by decide) (h2 : swapsWith (.Call (.Attribute (.Name x p1) "append" p2) [e] [] p3) none pos.line X.env = pure false := by rfl) 
    (hs : starEach [e] X.env = (false, eval e X.env) :: starEach [] X.env := by rfl)
    (hcall : ∀ to t, PE X (.Name x p1) to → PA X [e] t → PE X (.Call (.Attribute (.Name x p1) "append" p2) [e] [] p3) (tBM X.K "list" rAppend to t) := by exact fun to t ho ha => pe_bm PySem.F.plainAttrs_list PySem.F.slot_list_append PySem.F.type_list_append mt_append ho ha) :
    PS X (.Expr (.Call (.Attribute (.Name x p1) "append" p2) [e] [] p3) pos) (tSt X G W (sApp i f)) := by
  refine PS_mono (ps_expr (hcall _ _ (pe_var hi hv hd hcd) (pa_cons he pa_nil hs)) h2) fun D σ H h => ?_
  obtain ⟨F, env, br, h⟩ := h
  unfold sApp at h
  split at h
  · rename_i l e
    obtain ⟨a, vs, q1, q2, q3, q4, q5⟩ := br.ownL i l e
    refine ⟨.ref a, q1, .inl ⟨rfl, _, .inl (.inl q4)⟩, ?_⟩
    refine tE_go br h fun p v F1 H1 _ e1 b1 rp h1 => ?_
    split at h1
    · rename_i hl
      refine ⟨a, vs, v, rfl, rfl, e1.h _ _ q4, by rw [q5.len]; exact Nat.lt_of_lt_of_le hl (by decide), ?_⟩
      exact h1 F1 _ _ (Same.refl F1) (b1.change e q1 ((q5.mono e1.f).app (Rps.one rp)))
    · exact h1.elim
  · exact h.elim

/-! ### targets -/
/-- the target's rule and its plain function -/
def TgG (X : Cx) (G : Hp × Hp) (g : TG) (tg : PV → Lo → Option Lo) : Prop := ∀ (F H : Hp) (σ : L2.St) (env env' : Lo) (p : PV) (v : V) (Q : L2.St → Hp → Prop),
  BR X.K X.mg G F H σ env → Rp X.K X.mg F p v → tg p env = some env' → (∀ σ', BR X.K X.mg G F H σ' env' → Q σ' H) → g v σ H Q
def gN : List Nat → TGs
  | [] => gNil
  | i :: r => gCons (gName i) (gN r)
theorem tg_one (i : Nat) : TgG X G (gName i) (gOne i) := by
  intro F H σ env env' p v Q br rp e h
  cases e
  exact h _ (br.set rp)
theorem gN_ok : ∀ (is : List Nat) {F H : Hp} {σ : L2.St} {env : Lo} {ps : List PV} {vs : List V} {Q : L2.St → Hp → Prop}, ps.length = is.length → BR X.K X.mg G F H σ env → Rps X.K X.mg F ps vs →
    (∀ σ', BR X.K X.mg G F H σ' (setMany is ps env) → Q σ' H) → gN is vs σ H Q
  | [], F, H, σ, env, ps, vs, Q, hl, br, rp, h => by
    cases ps with
    | nil => simp only [Rps] at rp; exact ⟨rp, h σ br⟩
    | cons p ps => simp at hl
  | i :: is, F, H, σ, env, ps, vs, Q, hl, br, rp, h => by
    cases ps with
    | nil => simp at hl
    | cons p ps =>
      simp only [Rps] at rp
      obtain ⟨v, r, rfl, h1, h2⟩ := rp
      exact ⟨v, r, rfl, gN_ok is (by simpa using hl) (br.set h1) h2 h⟩
/-- .. = a tuple or a list of that length -/
def gTL (K : PySem.W.Frag) (n : Nat) (t : TGs) : TG := fun v σ H Q => gTup K n t v σ H Q ∨ gLst K n t v σ H Q
theorem pg_tl {es : List Expr} {k : Nat} {t : TGs} {n : Nat} (hc : X.calm = true) (h : PGs X es t)
    (hn : (assignEach es X.env).length = n := by rfl) (hst : (assignEach es X.env).findIdx? (·.1) = none := by rfl) : PG X (.Tuple es k pos) (gTL X.K n t) :=
  ⟨fun pins s σ H v u Q I r hw => hw.elim (fun hw => (pg_tup hc h hn hst).run pins s σ H v u Q I r hw) (fun hw => (pg_lst hc h hn hst).run pins s σ H v u Q I r hw)⟩
theorem tg_many (is : List Nat) {n : Nat} (hn : n = is.length) : TgG X G (gTL X.K n (gN is)) (gMany is) := by
  intro F H σ env env' p v Q br rp e h
  unfold gMany at e
  split at e
  · rename_i l
    split at e
    · rename_i hl
      cases e
      obtain ⟨a, vs, rfl, h1, h2⟩ := rp_tup.mp rp
      exact .inl ⟨a, vs, rfl, sqt_mono br.w h1, by rw [h2.len, hl, hn], gN_ok is hl br h2 h⟩
    · cases e
  · rename_i l
    split at e
    · rename_i hl
      cases e
      obtain ⟨a, vs, rfl, h1, h2⟩ := rp_lst.mp rp
      exact .inr ⟨a, vs, rfl, sql_mono br.w h1, by rw [h2.len, hl, hn], gN_ok is hl br h2 h⟩
    · cases e
  · cases e
theorem ss_tgt {tg e : Expr} {g : TG} {gg : PV → Lo → Option Lo} (hg : PG X tg g) (hgg : TgG X G g gg) (he : PE X e (tE X G W f)) (hs : swapsWithSole [tg] e pos.line X.env = pure false := by rfl) (hw : swappedStores [tg] e X.env = pure none := by rfl)
    (h1 : (assignEach [tg] X.env).map (·.2) = [assign tg X.env] := by rfl) : PS X (.Assign [tg] e pos) (tSt X G W (sTgt gg f)) := by
  refine PS_mono (ps_asg he hg hs hw h1) fun D σ H h => ?_
  obtain ⟨F, env, br, h⟩ := h
  refine tE_go br h fun p v F1 H1 _ e1 b1 rp h1 => ?_
  split at h1
  · rename_i env' e'
    exact hgg F1 H1 σ env env' p v _ b1 rp e' fun σ' b' => h1 F1 H1 σ' (Same.refl F1) b'
  · exact h1.elim
/-! ### raise of an own class without __init__ -/
theorem ss_raise {C : Addr} {B newId initId : String} {bmB : List Value} {x m : Str} {j : Nat} {p p2 p3 : Pos} (hc : X.calm = true) (tk : Takes X W) (EF : ExcBaseFacts B newId initId bmB) (q : PySem.W.excIn X.K C bmB newId = true) (gC : X.mg x = some (.ref C)) (kC : PySem.W.keepIn X.K (.ref C) = true) (r : Raises X (.ref C)) (hg : Gl X x)
    (hdb : (x == ("__debug__" : Str)) = false := by decide) : PS X (.Raise (some (.Call (.Name x p) [.Constant (.str m) j p2] [] pos)) none p3) (tSt X G W (sRaise x)) := by
  refine PS_mono (ps_raise hc tk (pmk_own EF q gC kC r hg hdb)) fun D σ H h => ?_
  obtain ⟨F, env, br, h⟩ := h
  exact h F H σ _ _ (Same.refl F) br ⟨C, gC, rfl, rfl⟩
end

/-! ### what is walked -/
/-- at the frozen heap F, J yields the items l -/
structure ItOk (X : Cx) (F0 : Hp) (J : It) (l : List PV) : Prop where
  go : ∀ (i : Nat) (F H : Hp), Same F0 F → Same F H → i < l.length → J.go i H
  yld : ∀ (i : Nat) (F H H' : Hp) (x : V), Same F0 F → Same F H → i < l.length → J.yld i H x H' → ∃ p F', l[i]? = some p ∧ Ext F H F' H' ∧ Rp X.K X.mg F' p x
  stop : ∀ (i : Nat) (F H : Hp), Same F0 F → Same F H → l.length ≤ i → J.stop i H
def tI (X : Cx) (G : Hp × Hp) (W : WX) (it : Lo → RL) : TI := fun σ H Q => ∃ F env, BR X.K X.mg G F H σ env ∧ match it env with
  | .ok l => ∀ F' H' J, Ext F H F' H' → ItOk X F' J l → Q J H'
  | .exc x => ∀ F' H' c d, Ext F H F' H' → Rx X.K X.mg F' x c d → W c d σ H'
  | .fail => False
def itOf : PV → RL
  | .lst l => .ok l
  | .tup l => .ok l
  | _ => .fail
def iSeq (f : Lo → R) : Lo → RL := fun env => (f env).bindL itOf
theorem PI_mono {X : Cx} {tg iter : Expr} {t t' : TI} (h : PI X tg iter t) (m : ∀ σ H Q, t' σ H Q → t σ H Q) : PI X tg iter t' := ⟨fun pins s σ H Q I q => h.run pins s σ H Q I (m σ H Q q)⟩
theorem PI_or {X : Cx} {tg iter : Expr} {t t1 t2 : TI} (h1 : PI X tg iter t1) (h2 : PI X tg iter t2) (m : ∀ σ H Q, t σ H Q → t1 σ H Q ∨ t2 σ H Q) : PI X tg iter t := ⟨fun pins s σ H Q I q => by
  rcases m σ H Q q with q | q
  · exact h1.run pins s σ H Q I q
  · exact h2.run pins s σ H Q I q⟩
theorem itOk_list {X : Cx} {F : Hp} {a : Addr} {vs : List V} {l : List PV} (h : SqL X.K F a vs) (r : Rps X.K X.mg F l vs) : ItOk X F (Itl X.K a) l where
  go := fun i F1 H e w hi => by
    have h2 : i < vs.length := by rw [r.len]; exact hi
    exact ⟨vs, vs[i], sql_mono (e.trans w) h, List.getElem?_eq_getElem h2⟩
  yld := fun i F1 H H' x e w hi y => by
    obtain ⟨rfl, y⟩ := y
    have e1 := y vs (sql_mono (e.trans w) h)
    obtain ⟨v, e2, rv⟩ := r.get (List.getElem?_eq_getElem hi)
    rw [e1] at e2
    cases e2
    exact ⟨_, F1, List.getElem?_eq_getElem hi, Ext.refl w, rv.mono e⟩
  stop := fun i F1 H e w hi => ⟨vs, sql_mono (e.trans w) h, by rw [r.len]; exact hi⟩
theorem itOk_tup {X : Cx} {F : Hp} {a : Addr} {vs : List V} {l : List PV} (h : SqT X.K F a vs) (r : Rps X.K X.mg F l vs) : ItOk X F (Itt X.K a) l where
  go := fun i F1 H e w hi => by
    have h2 : i < vs.length := by rw [r.len]; exact hi
    exact ⟨vs, vs[i], sqt_mono (e.trans w) h, List.getElem?_eq_getElem h2⟩
  yld := fun i F1 H H' x e w hi y => by
    obtain ⟨rfl, y⟩ := y
    have e1 := y vs (sqt_mono (e.trans w) h)
    obtain ⟨v, e2, rv⟩ := r.get (List.getElem?_eq_getElem hi)
    rw [e1] at e2
    cases e2
    exact ⟨_, F1, List.getElem?_eq_getElem hi, Ext.refl w, rv.mono e⟩
  stop := fun i F1 H e w hi => ⟨vs, sqt_mono (e.trans w) h, by rw [r.len]; exact hi⟩
/-- lo, lo + 1, .., n of them -/
def rngL (lo : Int) (n : Nat) : List PV := (List.range n).map fun k => .int (lo + (k : Nat))
theorem itOk_rng {X : Cx} {F : Hp} {lo : Int} {n : Nat} : ItOk X F (Itr lo n) (rngL lo n) where
  go := fun i F1 H e w hi => by
    unfold rngL at hi
    rw [List.length_map, List.length_range] at hi
    exact hi
  yld := fun i F1 H H' x e w hi y => by
    obtain ⟨rfl, rfl⟩ := y
    unfold rngL at hi ⊢
    rw [List.length_map, List.length_range] at hi
    exact ⟨.int (lo + i), F1, by rw [List.getElem?_map, List.getElem?_range hi]; rfl, Ext.refl w, rp_int.mpr rfl⟩
  stop := fun i F1 H e w hi => by
    unfold rngL at hi
    rw [List.length_map, List.length_range] at hi
    exact hi
def iRng1 (f : Lo → R) : Lo → RL := fun env => (f env).bindL fun p => match p with
  | .int j => if -(2 ^ 62) ≤ j ∧ j < 2 ^ 62 then .ok (rngL 0 j.toNat) else .fail
  | _ => .fail
def iRng2 (f g : Lo → R) : Lo → RL := fun env => (f env).bindL fun p => (g env).bindL fun q => match p, q with
  | .int i, .int j => if -(2 ^ 62) ≤ i ∧ i < 2 ^ 62 ∧ -(2 ^ 62) ≤ j ∧ j < 2 ^ 62 then .ok (rngL i (j - i).toNat) else .fail
  | _, _ => .fail
section
variable {X : Cx} {G : Hp × Hp} {W : WX} {e e' tg : Expr} {f f' : Lo → R} {p pos : Pos}
theorem si_seq (he : PE X e (tE X G W f)) : PI X tg e (tI X G W (iSeq f)) := by
  refine PI_or (pi_list he) (pi_tup he) fun σ H Q h => ?_
  obtain ⟨F, env, br, h⟩ := h
  unfold iSeq at h
  cases e1 : f env with
  | fail => rw [e1] at h; exact h.elim
  | exc x => rw [e1] at h; exact .inl ⟨F, env, br, by rw [e1]; exact h⟩
  | ok q =>
    rw [e1] at h
    cases q with
    | lst l =>
      refine .inl ⟨F, env, br, ?_⟩
      rw [e1]
      intro F1 H1 v ex rv
      obtain ⟨a, vs, rfl, h1, h2⟩ := rp_lst.mp rv
      exact ⟨a, rfl, ⟨vs, sql_mono ex.w h1⟩, h F1 H1 _ ex (itOk_list h1 h2)⟩
    | tup l =>
      refine .inr ⟨F, env, br, ?_⟩
      rw [e1]
      intro F1 H1 v ex rv
      obtain ⟨a, vs, rfl, h1, h2⟩ := rp_tup.mp rv
      exact ⟨a, rfl, ⟨vs, sqt_mono ex.w h1⟩, h F1 H1 _ ex (itOk_tup h1 h2)⟩
    | non => exact h.elim
    | bl _ => exact h.elim
    | int _ => exact h.elim
    | str _ => exact h.elim
    | ins _ => exact h.elim
    | exn _ _ => exact h.elim
    | dct _ _ => exact h.elim
theorem si_rng1 (hg : Gl X "range") (hm : X.mg "range" = none) (he : PE X e (tE X G W f)) (hs : starEach [e] X.env = [(false, eval e X.env)] := by rfl) : PI X tg (.Call (.Name "range" p) [e] [] pos) (tI X G W (iRng1 f)) := by
  refine PI_mono (pi_range1 hg hm (pa_cons he pa_nil hs) hs) fun σ H Q h => ?_
  obtain ⟨F, env, br, h⟩ := h
  refine ⟨F, env, br, ?_⟩
  unfold iRng1 at h
  cases e1 : f env with
  | fail => rw [e1] at h; exact h.elim
  | exc x => rw [e1] at h; exact h
  | ok q =>
    rw [e1] at h
    cases q with
    | int j =>
      intro F1 H1 v ex rv
      have e2 := rp_int.mp rv
      subst e2
      simp only [R.bindL] at h
      split at h
      · rename_i l e3
        split at e3
        · rename_i hb
          cases e3
          exact ⟨j, rfl, hb.1, hb.2, h F1 H1 _ ex itOk_rng⟩
        · cases e3
      · rename_i e3
        split at e3 <;> cases e3
      · exact h.elim
    | lst _ => exact h.elim
    | tup _ => exact h.elim
    | non => exact h.elim
    | bl _ => exact h.elim
    | str _ => exact h.elim
    | ins _ => exact h.elim
    | exn _ _ => exact h.elim
    | dct _ _ => exact h.elim
theorem si_rng2 (hg : Gl X "range") (hm : X.mg "range" = none) (he : PE X e (tE X G W f)) (he' : PE X e' (tE X G W f')) (hs : starEach [e, e'] X.env = [(false, eval e X.env), (false, eval e' X.env)] := by rfl) (hs2 : starEach [e'] X.env = [(false, eval e' X.env)] := by rfl) :
    PI X tg (.Call (.Name "range" p) [e, e'] [] pos) (tI X G W (iRng2 f f')) := by
  refine PI_mono (pi_range2 hg hm (pa_cons he (pa_cons he' pa_nil hs2) (by rw [hs2]; exact hs)) hs hs2) fun σ H Q h => ?_
  obtain ⟨F, env, br, h⟩ := h
  refine ⟨F, env, br, ?_⟩
  unfold iRng2 at h
  cases e1 : f env with
  | fail => rw [e1] at h; exact h.elim
  | exc x => rw [e1] at h; exact h
  | ok q =>
    rw [e1] at h
    intro F1 H1 v ex rv
    refine ⟨F1, env, br.mono ex, ?_⟩
    cases e2 : f' env with
    | fail => rw [e2] at h; exact h.elim
    | exc x => rw [e2] at h; exact fun F' H' c d ex' rx => h F' H' c d (ex.trans ex') rx
    | ok q' =>
      rw [e2] at h
      intro F2 H2 v' ex' rv'
      simp only [R.bindL] at h
      split at h
      · rename_i l e3
        split at e3
        · rename_i i j
          split at e3
          · rename_i hb
            cases e3
            have e4 := rp_int.mp rv
            have e5 := rp_int.mp rv'
            subst e4 e5
            exact ⟨i, j, rfl, hb, h F2 H2 _ (ex.trans ex') itOk_rng⟩
          · cases e3
        · cases e3
      · rename_i e3
        split at e3
        · split at e3 <;> cases e3
        · cases e3
      · exact h.elim
end

/-! ### for -/
def forL (g : PV → Lo → Option Lo) (body : Lo → Fl) : List PV → Lo → Fl
  | [], env => .nx env
  | p :: ps, env => match g p env with
    | none => .fail
    | some e => match body e with
      | .nx e1 => forL g body ps e1
      | .ct e1 => forL g body ps e1
      | .bk e1 => .nx e1
      | r => r
def sFor (it : Lo → RL) (g : PV → Lo → Option Lo) (body : Lo → Fl) : Lo → Fl := fun env => (it env).go env fun l => forL g body l env
section
variable {X : Cx} {G : Hp × Hp} {W : WX} {it : Lo → RL} {b : Lo → Fl} {pos : Pos}
theorem ss_for {tg iter : Expr} {body : List Stmt} {g : TG} {gg : PV → Lo → Option Lo} (hp : PassesOwn (model X.prog X.w) X.A X.env X.xe) (hc : X.calm = true) (hi : PI X tg iter (tI X G W it)) (hg : PG X tg g) (hgg : TgG X G g gg) (hb : PSs X body (tSt X G W b))
    (hs : ∀ x, foldedSetIterable iter X.env x = pure x := by intro _; rfl) : PS X (.For tg iter body [] pos) (tSt X G W (sFor it gg b)) := by
  refine PS_mono (ps_for hp hc hi hg hb hs) fun D σ H h => ?_
  obtain ⟨F, env, br, h⟩ := h
  refine ⟨F, env, br, ?_⟩
  unfold sFor at h
  cases e1 : it env with
  | fail => rw [e1] at h; exact h
  | exc x => rw [e1] at h; exact fun F' H' c d ex rx => h F' H' σ c d ex.f (br.mono ex) rx
  | ok l =>
    rw [e1] at h
    intro F1 H1 J ex ok
    have h' : PostS X.K X.mg G W F1 D (forL gg b l env) := h.move ex.f
    refine ⟨fun i m σ H => i + m = l.length ∧ ∃ F env, Same F1 F ∧ BR X.K X.mg G F H σ env ∧ PostS X.K X.mg G W F D (forL gg b (l.drop i) env), ⟨l.length, by omega, F1, env, Same.refl _, br.mono ex, h'⟩, ?_⟩
    intro i m σ H ⟨em, F2, env2, sm, br2, po⟩
    by_cases hlt : i < l.length
    · refine .inr ⟨ok.go i F2 H sm br2.w hlt, fun σ H => ∃ F env, Same F1 F ∧ BR X.K X.mg G F H σ env ∧ PostS X.K X.mg G W F D (forL gg b (l.drop (i + 1)) env), fun σ' H' hN => ⟨m - 1, by omega, by omega, hN⟩, fun x H' hy => ?_⟩
      obtain ⟨p, F3, ep, ex3, rp⟩ := ok.yld i F2 H H' x sm br2.w hlt hy
      have ed : l.drop i = p :: l.drop (i + 1) := by
        rw [List.drop_eq_getElem_cons hlt]
        rw [List.getElem?_eq_getElem hlt] at ep
        cases ep
        rfl
      rw [ed] at po
      have br3 := br2.mono ex3
      have po3 := po.move ex3.f
      simp only [forL] at po3
      cases eg : gg p env2 with
      | none => rw [eg] at po3; exact po3.elim
      | some env3 =>
        rw [eg] at po3
        dsimp only at po3
        refine hgg F3 H' σ env2 env3 p x _ br3 rp eg fun σ' b' => ⟨F3, env3, b', ?_⟩
        have sm3 : Same F1 F3 := sm.trans ex3.f
        cases eb : b env3 with
        | nx e => rw [eb] at po3; exact fun F4 H4 σ4 s4 b4 => ⟨F4, e, sm3.trans s4, b4, po3.move s4⟩
        | ct e => rw [eb] at po3; exact fun F4 H4 σ4 s4 b4 => ⟨F4, e, sm3.trans s4, b4, po3.move s4⟩
        | bk e => rw [eb] at po3; exact po3
        | rt p => rw [eb] at po3; exact po3
        | exc x e => rw [eb] at po3; exact po3
        | fail => rw [eb] at po3; exact po3
    · refine .inl ⟨ok.stop i F2 H sm br2.w (by omega), ?_⟩
      rw [List.drop_eq_nil_of_le (by omega)] at po
      exact po F2 H σ (Same.refl _) br2
end

/-! ### while -/
def whileN (ft : Lo → R) (body : Lo → Fl) : Nat → Lo → Fl
  | 0, _ => .fail
  | n + 1, env => (ft env).go env fun p => match p with
    | .bl true => match body env with
      | .nx e1 => whileN ft body n e1
      | .ct e1 => whileN ft body n e1
      | .bk e1 => .nx e1
      | r => r
    | .bl false => .nx env
    | _ => .fail
open Classical in
/-- the outcome of as many turns as it takes -/
noncomputable def sWhile (ft : Lo → R) (body : Lo → Fl) : Lo → Fl := fun env => if h : ∃ n, whileN ft body n env ≠ .fail then whileN ft body h.choose env else .fail
theorem whileN_more {ft : Lo → R} {body : Lo → Fl} : ∀ (n : Nat) (env : Lo) (k : Nat), whileN ft body n env ≠ .fail → whileN ft body (n + k) env = whileN ft body n env
  | 0, _, _, h => absurd rfl h
  | n + 1, env, k, h => by
    rw [show n + 1 + k = (n + k) + 1 by omega]
    simp only [whileN] at h ⊢
    cases e1 : ft env with
    | fail => rw [e1] at h; exact absurd rfl h
    | exc x => rfl
    | ok p =>
      rw [e1] at h
      simp only [R.go] at h ⊢
      split at h
      · cases e2 : body env with
        | nx e => rw [e2] at h; exact whileN_more n e k h
        | ct e => rw [e2] at h; exact whileN_more n e k h
        | bk e => rfl
        | rt p => rfl
        | exc x e => rfl
        | fail => rfl
      · rfl
      · exact absurd rfl h
theorem sWhile_eq {ft : Lo → R} {body : Lo → Fl} {env : Lo} {n : Nat} {r : Fl} (h : whileN ft body n env = r) (hr : r ≠ .fail) : sWhile ft body env = r := by
  have hh : ∃ n, whileN ft body n env ≠ .fail := ⟨n, by rw [h]; exact hr⟩
  unfold sWhile
  rw [dif_pos hh]
  have c := hh.choose_spec
  have e1 := whileN_more hh.choose env n c
  have e2 := whileN_more n env hh.choose (by rw [h]; exact hr)
  rw [Nat.add_comm] at e1
  rw [← e1, e2, h]
section
variable {X : Cx} {G : Hp × Hp} {W : WX} {ft : Lo → R} {b : Lo → Fl} {pos : Pos}
theorem ss_while {c : Expr} {body : List Stmt} (hp : PassesOwn (model X.prog X.w) X.A X.env X.xe) (hc : PT X c (tT X G W ft)) (hb : PSs X body (tSt X G W b)) : PS X (.While c body [] pos) (tSt X G W (sWhile ft b)) := by
  refine PS_mono (ps_while hp hc hb) fun D σ H h => ?_
  obtain ⟨F, env, br, h⟩ := h
  have hn : ∃ n, PostS X.K X.mg G W F D (whileN ft b n env) := by
    unfold sWhile at h
    split at h
    · exact ⟨_, h⟩
    · exact h.elim
  obtain ⟨n, hn⟩ := hn
  refine ⟨fun m σ H => ∃ F env, BR X.K X.mg G F H σ env ∧ PostS X.K X.mg G W F D (whileN ft b m env), ⟨n, F, env, br, hn⟩, ?_⟩
  intro m σ H ⟨F2, env2, br2, po⟩
  cases m with
  | zero => exact po.elim
  | succ m =>
    simp only [whileN] at po
    refine tT_go br2 po fun p v F3 H3 ex3 br3 rp po3 => ?_
    split at po3
    · refine ⟨true, rp_bl.mp rp, ?_⟩
      rw [if_pos rfl]
      refine ⟨fun σ H => ∃ F env, BR X.K X.mg G F H σ env ∧ PostS X.K X.mg G W F D (whileN ft b m env), fun σ' H' hN => ⟨m, Nat.lt_succ_self m, hN⟩, F3, env2, br3, ?_⟩
      cases eb : b env2 with
      | nx e => rw [eb] at po3; exact fun F4 H4 σ4 s4 b4 => ⟨F4, e, b4, po3.move s4⟩
      | ct e => rw [eb] at po3; exact fun F4 H4 σ4 s4 b4 => ⟨F4, e, b4, po3.move s4⟩
      | bk e => rw [eb] at po3; exact po3
      | rt p => rw [eb] at po3; exact po3
      | exc x e => rw [eb] at po3; exact po3
      | fail => rw [eb] at po3; exact po3
    · refine ⟨false, rp_bl.mp rp, ?_⟩
      rw [if_neg (by decide)]
      exact po3 F3 H3 σ (Same.refl _) br3
    · exact po3.elim
end

/-! ### a def -/
def fnSem (n np : Nat) (body : Lo → Fl) : List PV → R := fun ps => if ps.length = np then match body (ps.map Slot.val ++ List.replicate (n - np) Slot.none) with
    | .nx _ => .ok .non
    | .rt p => .ok p
    | .exc x _ => .exc x
    | _ => .fail
  else .fail
def spOf (K : PySem.W.Frag) (mg : Str → Option Value) (np : Nat) (sem : List PV → R) : Sp := fun vs H Q E => ∃ F ps, Same F H ∧ Rps K mg F ps vs ∧ ps.length = np ∧ PostR K mg E F H Q (sem ps)
theorem br_start {K : PySem.W.Frag} {mg : Str → Option Value} {F H : Hp} {N : List Str} {ps : List PV} {vs : List V} (w : Same F H) (r : Rps K mg F ps vs) : BR K mg (F, H) F H (L2.start N vs) (ps.map Slot.val ++ List.replicate (N.length - ps.length) Slot.none) where
  ext := Ext.refl w
  len := by
    unfold L2.start
    simp only [List.length_append, List.length_map, List.length_replicate]
    rw [r.len]
  val := fun i p e => by
    rw [List.getElem?_append] at e
    unfold L2.start
    split at e
    · rename_i hl
      rw [List.getElem?_map] at e
      cases q : ps[i]? with
      | none => rw [q] at e; cases e
      | some p' =>
        rw [q] at e
        cases e
        obtain ⟨v, e1, rv⟩ := r.get q
        have hv : i < vs.length := (List.getElem?_eq_some_iff.mp e1).1
        exact ⟨v, by rw [List.getElem?_append_left (by rw [List.length_map]; exact hv), List.getElem?_map, e1]; rfl, rv⟩
    · rw [List.getElem?_replicate] at e
      split at e <;> cases e
  own := fun i d l e => by
    rw [List.getElem?_append] at e
    split at e
    · rw [List.getElem?_map] at e
      cases q : ps[i]? with
      | none => rw [q] at e; cases e
      | some p' => rw [q] at e; cases e
    · rw [List.getElem?_replicate] at e
      split at e <;> cases e
  sep := fun i j d d' l l' a e _ _ _ => by
    rw [List.getElem?_append] at e
    split at e
    · rw [List.getElem?_map] at e
      cases q : ps[i]? with
      | none => rw [q] at e; cases e
      | some p' => rw [q] at e; cases e
    · rw [List.getElem?_replicate] at e
      split at e <;> cases e
section
variable {P : Program} {w : World} {K : PySem.W.Frag} {mg : Str → Option Value} {base : Heap}
theorem fn_ok {x qual : Str} {st : Stmt} {f : Addr} {fd : FuncData} {N ps : List Str} {k np : Nat} {body : Lo → Fl} (Fn : Fun K x qual st f fd) (S : FnScope N ps (defScope st)) (hnp : np = ps.length)
    (hb : ∀ (cdv : Value) (A : Around) (outer : List Env) (s : Shared) (H : Hp) (E : XK) (G : Hp × Hp), Room k (A.deeper (envOfC qual (defScope st) s.heap.objs.size f cdv)) →
      PSs (cxOf (L2.CX P w) P w K mg base N qual (defScope st) f cdv A outer s H E) (defBody st) (tSt (cxOf (L2.CX P w) P w K mg base N qual (defScope st) f cdv A outer s H E) G (fun c d _ H => E c d H) body)) :
    FnOk P w K mg base (L2.CX P w) (k + 1) f fd ps (spOf K mg np (fnSem N.length np body)) := by
  refine Fn.okX S (fun vs H Q E h => ?_) (fun cdv A outer s H vs Q E hr h => ?_)
  · obtain ⟨F, qs, _, r, hl, _⟩ := h
    rw [r.len, hl, hnp]
  · obtain ⟨F, qs, sm, r, hl, po⟩ := h
    refine ⟨_, hb cdv A outer s H E (F, H) hr, F, _, br_start sm r, ?_⟩
    unfold fnSem at po
    rw [if_pos hl, ← hl] at po
    cases e : body (qs.map Slot.val ++ List.replicate (N.length - qs.length) Slot.none) with
    | nx env => rw [e] at po; exact fun F' H' σ' s' b' => po F' H' _ b'.ext (rp_non.mpr rfl)
    | rt p => rw [e] at po; exact fun F' H' v ex rv => po F' H' v ex rv
    | exc x env => rw [e] at po; exact fun F' H' σ' c d s' b' rx => po F' H' c d b'.ext rx
    | bk env => rw [e] at po; exact po.elim
    | ct env => rw [e] at po; exact po.elim
    | fail => rw [e] at po; exact po.elim
end
/-- a call: the written arguments, then the defaults -/
def eCall (sem : List PV → R) (dps : List PV) (fl : Lo → RL) : Lo → R := fun env => (fl env).bind fun ps => sem (ps ++ dps)
section
variable {X : Cx} {G : Hp × Hp} {W : WX} {k np : Nat} {f : Addr} {fd : FuncData} {ps : List Str} {dps : List PV} {dvs : List V} {ds : List Value} {x : Str} {p pos : Pos} {e : Expr} {es : List Expr} {fl : Lo → RL} {sem : List PV → R}
theorem se_call (Fk : FnOk X.prog X.w X.K X.mg X.base (L2.CX X.prog X.w) k f fd ps (spOf X.K X.mg np sem)) (hr : Room k X.A) (tk : Takes X W) (hm : X.mg x = some (.ref f)) (hk : PySem.W.keepIn X.K (.ref f) = true) (hb : Binds X.K fd ps ds) (hd : Vals dvs ds) (hdp : ∀ F, Rps X.K X.mg F dps dvs)
    (hg : Gl X x) (ha : PA X (e :: es) (tA X G W fl)) (hdb : (x == ("__debug__" : Str)) = false := by decide) (he : starEach (e :: es) X.env = (false, eval e X.env) :: starEach es X.env := by rfl) (hpl : (backTo pos (starEach es X.env)).any (·.1) = false := by rfl)
    (hnp : ∀ qs, qs.length ≠ np → sem qs = .fail := by intro qs h; exact if_neg h) :
    PE X (.Call (.Name x p) (e :: es) [] pos) (tE X G W (eCall sem dps fl)) := by
  refine PE_mono (pe_callSD Fk hr hg hm hk hb hd (fun σ => passAt tk σ) ha hdb he hpl) fun σ H Q h => ?_
  obtain ⟨F, env, br, h⟩ := h
  refine tA_bind br h fun qs vs F1 H1 e1 b1 rp h1 => ?_
  refine ⟨F1, qs ++ dps, b1.w, rp.app (hdp F1), ?_, h1⟩
  exact Decidable.byContradiction fun hn => by rw [hnp _ hn] at h1; exact h1
end
end Nf

namespace Nf
open PySem PySem.Spec PyProof.Rows L2

/-! ### list comprehensions over one source -/
/-- the items made: gg the target, tt the test, te the item; nothing may be raised within -/
def lcL (gg : PV → Lo → Option Lo) (tt te : Lo → R) (env : Lo) : List PV → RL
  | [] => .ok []
  | p :: ps => match gg p env with
    | none => .fail
    | some e => match tt e with
      | .ok (.bl true) => match te e with
        | .ok q => match lcL gg tt te env ps with
          | .ok qs => .ok (q :: qs)
          | _ => .fail
        | _ => .fail
      | .ok (.bl false) => lcL gg tt te env ps
      | _ => .fail
def wipeL : List Nat → Lo → Lo
  | [], env => env
  | i :: is, env => (wipeL is env).set i Slot.none
def eLc (it : Lo → RL) (own : List Nat) (gg : PV → Lo → Option Lo) (tt te : Lo → R) : Lo → R := fun env => (it env).bind fun l => if l.length ≤ 100000 then match lcL gg tt te (wipeL own env) l with
    | .ok qs => .ok (.lst qs)
    | _ => .fail
  else .fail
theorem lcL_len {gg : PV → Lo → Option Lo} {tt te : Lo → R} {env : Lo} : ∀ {l qs : List PV}, lcL gg tt te env l = .ok qs → qs.length ≤ l.length
  | [], qs, h => by cases h; exact Nat.le_refl _
  | p :: ps, qs, h => by
    simp only [lcL] at h
    split at h
    · cases h
    · split at h
      · split at h
        · split at h
          · rename_i qs' e
            cases h
            have := lcL_len e
            simp only [List.length_cons]
            omega
          · cases h
        · cases h
      · have := lcL_len h
        simp only [List.length_cons]
        omega
      · cases h
theorem BR.unset {K : PySem.W.Frag} {mg : Str → Option Value} {G : Hp × Hp} {F H : Hp} {σ : L2.St} {env : Lo} (b : BR K mg G F H σ env) (i : Nat) : BR K mg G F H (σ.set i none) (env.set i Slot.none) where
  ext := b.ext
  len := by rw [List.length_set, List.length_set]; exact b.len
  val := fun j q e => by
    by_cases hj : i = j
    · subst hj
      rw [List.getElem?_set] at e
      simp only [if_true] at e
      split at e <;> cases e
    · rw [List.getElem?_set_ne hj] at e ⊢
      exact b.val j q e
  own := fun j d l e => by
    by_cases hj : i = j
    · subst hj
      rw [List.getElem?_set] at e
      simp only [if_true] at e
      split at e <;> cases e
    · rw [List.getElem?_set_ne hj] at e ⊢
      exact b.own j d l e
  sep := fun j k d d' l l' a e1 e2 e3 e4 => by
    have hj : i ≠ j := fun z => by
      subst z
      rw [List.getElem?_set] at e1
      simp only [if_true] at e1
      split at e1 <;> cases e1
    have hk : i ≠ k := fun z => by
      subst z
      rw [List.getElem?_set] at e2
      simp only [if_true] at e2
      split at e2 <;> cases e2
    rw [List.getElem?_set_ne hj] at e1 e3
    rw [List.getElem?_set_ne hk] at e2 e4
    exact b.sep j k d d' l l' a e1 e2 e3 e4
theorem BR.wipe {K : PySem.W.Frag} {mg : Str → Option Value} {G : Hp × Hp} {F H : Hp} {σ : L2.St} {env : Lo} (b : BR K mg G F H σ env) : ∀ is : List Nat, BR K mg G F H (L2.wipe σ is) (wipeL is env)
  | [] => b
  | i :: is => (BR.wipe b is).unset i
/-- the target of a comprehension stores into the block's own names alone -/
def TgW (g : TG) (vs : List Nat) : Prop := ∀ (v : V) (σ : L2.St) (H : Hp) (Q : L2.St → Hp → Prop), g v σ H Q → g v σ H fun σ2 H2 => L2.wipe σ2 vs = L2.wipe σ vs ∧ Q σ2 H2
theorem tw_one (i : Nat) : TgW (gName i) [i] := by
  intro v σ H Q h
  refine ⟨?_, h⟩
  show (σ.set i (some v)).set i none = σ.set i none
  rw [List.set_set]
theorem wipe_in {i : Nat} {v : Option V} : ∀ {vs : List Nat} {σ : L2.St}, i ∈ vs → L2.wipe (σ.set i v) vs = L2.wipe σ vs
  | [], _, h => nomatch h
  | j :: js, σ, h => by
    show (L2.wipe (σ.set i v) js).set j none = (L2.wipe σ js).set j none
    by_cases hj : i ∈ js
    · rw [wipe_in hj]
    · have e : i = j := by
        rcases List.mem_cons.mp h with e | e
        · exact e
        · exact absurd e hj
      subst e
      have : ∀ (js : List Nat) (σ : L2.St), i ∉ js → L2.wipe (σ.set i v) js = (L2.wipe σ js).set i v := by
        intro js
        induction js with
        | nil => intro σ _; rfl
        | cons k ks ih =>
          intro σ hn
          have h1 : i ≠ k := fun z => hn (by rw [z]; exact List.mem_cons_self)
          have h2 : i ∉ ks := fun z => hn (List.mem_cons_of_mem _ z)
          show (L2.wipe (σ.set i v) ks).set k none = ((L2.wipe σ ks).set k none).set i v
          rw [ih σ h2]
          rw [List.set_comm _ _ h1]
      rw [this js σ hj, List.set_set]
theorem gN_wipe (vs : List Nat) : ∀ (is : List Nat), (∀ i ∈ is, i ∈ vs) → ∀ (us : List V) (σ : L2.St) (H : Hp) (Q : L2.St → Hp → Prop), gN is us σ H Q → gN is us σ H fun σ2 H2 => L2.wipe σ2 vs = L2.wipe σ vs ∧ Q σ2 H2
  | [], _, us, σ, H, Q, h => ⟨h.1, rfl, h.2⟩
  | i :: is, hi, us, σ, H, Q, h => by
    obtain ⟨v, r, e, h⟩ := h
    refine ⟨v, r, e, ?_⟩
    have h2 := gN_wipe vs is (fun j hj => hi j (List.mem_cons_of_mem _ hj)) r _ H Q h
    have e2 : L2.wipe (σ.set i (some v)) vs = L2.wipe σ vs := wipe_in (hi i List.mem_cons_self)
    show gN is r (σ.set i (some v)) H _
    rw [e2] at h2
    exact h2
theorem tw_many {K : PySem.W.Frag} {n : Nat} (is vs : List Nat) (hi : ∀ i ∈ is, i ∈ vs) : TgW (gTL K n (gN is)) vs := by
  intro v σ H Q h
  rcases h with ⟨a, xs, e1, h1, h2, h3⟩ | ⟨a, xs, e1, h1, h2, h3⟩
  · exact .inl ⟨a, xs, e1, h1, h2, gN_wipe vs is hi xs σ H Q h3⟩
  · exact .inr ⟨a, xs, e1, h1, h2, gN_wipe vs is hi xs σ H Q h3⟩
theorem wipe_idem (σ : L2.St) (vs : List Nat) : ∀ ws : List Nat, (∀ i ∈ ws, i ∈ vs) → L2.wipe (L2.wipe σ ws) vs = L2.wipe σ vs
  | [], _ => rfl
  | i :: is, h => by
    show L2.wipe ((L2.wipe σ is).set i none) vs = L2.wipe σ vs
    rw [wipe_in (h i List.mem_cons_self), wipe_idem σ vs is fun j hj => h j (List.mem_cons_of_mem _ hj)]
section
variable {X : Cx} {G : Hp × Hp} {W : WX} {it : Lo → RL} {tt te : Lo → R} {gg : PV → Lo → Option Lo}
abbrev W0 : WX := fun _ _ _ _ => False
theorem lc_ok {g : TG} {own : List Nat} (hgg : TgG X G g gg) (hw : TgW g own) {σ : L2.St} {H : Hp} {Q : VK} (h : tE X G W (eLc it own gg tt te) σ H Q) : tLc (tI X G W it) g (tT X G W0 tt) (tE X G W0 te) own σ H Q := by
  obtain ⟨F, env, br, h⟩ := h
  refine ⟨F, env, br, ?_⟩
  unfold eLc at h
  cases e1 : it env with
  | fail => rw [e1] at h; exact h
  | exc x => rw [e1] at h; exact h
  | ok l =>
    rw [e1] at h
    simp only [RL.bind] at h
    split at h
    rotate_left
    · exact h.elim
    rename_i hl
    split at h
    rotate_left
    · exact h.elim
    rename_i qs eq
    intro F1 H1 J ex ok D hD
    have br1 := (br.mono ex).wipe own
    have nF1 : F1 D = none := ex.w.free hD
    have x1 : Ext F1 H1 F1 (upd H1 D (.lst [])) := ⟨Same.refl _, same_upd hD, ex.w.trans (same_upd hD), fun _ e _ => e⟩
    refine ⟨fun i m H => i + m = l.length ∧ ∃ F acc vs rest, Ext F1 H1 F H ∧ F D = none ∧ H D = some (.lst vs) ∧ Rps X.K X.mg F acc vs ∧ lcL gg tt te (wipeL own env) (l.drop i) = .ok rest ∧ acc ++ rest = qs ∧ BR X.K X.mg G F H (L2.wipe σ own) (wipeL own env),
      ⟨l.length, by omega, F1, [], [], qs, x1, nF1, upd_same, by simp only [Rps], eq, rfl, br1.mono x1⟩, ?_⟩
    intro i m H2 ⟨em, F2, acc, vs, rest, ex2, nD, eD, rA, eR, eA, br2⟩
    by_cases hlt : i < l.length
    · refine .inr ⟨ok.go i F2 H2 ex2.f ex2.w hlt, fun H => ∃ F acc vs rest, Ext F1 H1 F H ∧ F D = none ∧ H D = some (.lst vs) ∧ Rps X.K X.mg F acc vs ∧ lcL gg tt te (wipeL own env) (l.drop (i + 1)) = .ok rest ∧ acc ++ rest = qs ∧ BR X.K X.mg G F H (L2.wipe σ own) (wipeL own env),
        fun H' hN => ⟨m - 1, by omega, by omega, hN⟩, fun x H' hy => ?_⟩
      obtain ⟨p, F3, ep, ex3, rp⟩ := ok.yld i F2 H2 H' x ex2.f ex2.w hlt hy
      have ed : l.drop i = p :: l.drop (i + 1) := by
        rw [List.drop_eq_getElem_cons hlt]
        rw [List.getElem?_eq_getElem hlt] at ep
        cases ep
        rfl
      rw [ed] at eR
      simp only [lcL] at eR
      cases eg : gg p (wipeL own env) with
      | none => rw [eg] at eR; cases eR
      | some env3 =>
        rw [eg] at eR
        dsimp only at eR
        have br3 := br2.mono ex3
        have nD3 : F3 D = none := ex3.sep D nD (by rw [eD]; exact fun z => nomatch z)
        have eD3 := ex3.h _ _ eD
        have wi : L2.wipe (L2.wipe σ own) own = L2.wipe σ own := wipe_idem σ own own fun _ h => h
        have z := hw x (L2.wipe σ own) H' (fun σ2 H2 => tT X G W0 tt σ2 H2 fun b H3 => if b = true then tE X G W0 te σ2 H3 fun y H4 => ∃ acc, H4 D = some (.lst acc) ∧ acc.length < sizeLine ∧
            (∃ F acc' vs rest, Ext F1 H1 F (upd H4 D (.lst (acc ++ [y]))) ∧ F D = none ∧ (upd H4 D (.lst (acc ++ [y]))) D = some (.lst vs) ∧ Rps X.K X.mg F acc' vs ∧ lcL gg tt te (wipeL own env) (l.drop (i + 1)) = .ok rest ∧ acc' ++ rest = qs ∧ BR X.K X.mg G F (upd H4 D (.lst (acc ++ [y]))) (L2.wipe σ own) (wipeL own env))
          else (∃ F acc' vs rest, Ext F1 H1 F H3 ∧ F D = none ∧ H3 D = some (.lst vs) ∧ Rps X.K X.mg F acc' vs ∧ lcL gg tt te (wipeL own env) (l.drop (i + 1)) = .ok rest ∧ acc' ++ rest = qs ∧ BR X.K X.mg G F H3 (L2.wipe σ own) (wipeL own env))) (hgg F3 H' _ _ env3 p x _ br3 rp eg fun σ' b' => ?_)
        · rw [wi] at z
          exact z
        · refine ⟨F3, env3, b', ?_⟩
          cases et : tt env3 with
          | fail => rw [et] at eR; cases eR
          | exc x => rw [et] at eR; cases eR
          | ok tv =>
            rw [et] at eR
            intro F4 H4 v4 ex4 rv4
            split at eR
            · rename_i e
              cases e
              refine ⟨true, rp_bl.mp rv4, ?_⟩
              dsimp only
              rw [if_pos rfl]
              refine ⟨F4, env3, b'.mono ex4, ?_⟩
              cases ee : te env3 with
              | fail => rw [ee] at eR; cases eR
              | exc x => rw [ee] at eR; cases eR
              | ok q =>
                rw [ee] at eR
                intro F5 H5 y ex5 ry
                dsimp only at eR
                split at eR
                · rename_i qs' eq'
                  cases eR
                  have ex35 := ex4.trans ex5
                  have eD5 := ex35.h _ _ eD3
                  have nD5 : F5 D = none := ex35.sep D nD3 (by rw [eD3]; exact fun z => nomatch z)
                  have hlen : acc.length < 100000 := by
                    have h1 := congrArg List.length eA
                    have h2 := lcL_len eq
                    simp only [List.length_append, List.length_cons] at h1
                    omega
                  refine ⟨vs, eD5, by rw [rA.len]; exact Nat.lt_of_lt_of_le hlen (by decide), F5, acc ++ [q], vs ++ [y], qs', ?_, nD5, upd_same, (rA.mono (ex3.trans ex35).f).app (Rps.one ry), eq', by rw [List.append_assoc]; exact eA, ?_⟩
                  · have ex15 : Ext F1 H1 F5 H5 := ex2.trans (ex3.trans ex35)
                    exact ⟨ex15.f, fun b o e => by rw [upd_ne (ne_of_none e hD)]; exact ex15.h _ _ e, fun b o e => by rw [upd_ne (ne_of_none e nD5)]; exact ex15.w _ _ e, ex15.sep⟩
                  · have b5 := br3.mono ex35
                    have gD : G.2 D = none := (br.mono ex).ext.h.free hD
                    refine ⟨⟨b5.ext.f, fun b o e => by rw [upd_ne (ne_of_none e gD)]; exact b5.ext.h _ _ e, fun b o e => by rw [upd_ne (ne_of_none e nD5)]; exact b5.ext.w _ _ e, b5.ext.sep⟩, b5.len, b5.val, fun j d m e => ?_, b5.sep⟩
                    obtain ⟨a, ws, g1, g2, g3, g4, g5⟩ := b5.own j d m e
                    have ne : a ≠ D := fun z => by
                      subst z
                      obtain ⟨a', ws', k1, k2, k3, k4, k5⟩ := br1.own j d m e
                      rw [g1] at k1
                      cases k1
                      rw [hD] at k4; cases k4
                    exact ⟨a, ws, g1, g2, g3, by rw [upd_ne ne]; exact g4, g5⟩
                · cases eR
            · rename_i e
              cases e
              refine ⟨false, rp_bl.mp rv4, ?_⟩
              dsimp only
              rw [if_neg (by decide)]
              exact ⟨F4, acc, vs, rest, ex2.trans (ex3.trans ex4), ex4.sep D nD3 (by rw [eD3]; exact fun z => nomatch z), ex4.h _ _ eD3, rA.mono (ex3.trans ex4).f, eR, eA, br3.mono ex4⟩
            · cases eR
    · refine .inl ⟨ok.stop i F2 H2 ex2.f ex2.w (by omega), ?_⟩
      rw [List.drop_eq_nil_of_le (by omega)] at eR
      cases eR
      rw [List.append_nil] at eA
      subst eA
      have sF : Same F2 (upd F2 D (.lst vs)) := same_upd nD
      have exx : Ext F H F2 H2 := ex.trans ex2
      refine h (upd F2 D (.lst vs)) H2 (.ref D) ⟨exx.f.trans sF, exx.h, fun b o e => ?_, fun a e n => ?_⟩ (rp_lst.mpr ⟨D, vs, rfl, .inl (.inl upd_same), rA.mono sF⟩)
      · by_cases hb : b = D
        · subst hb; rw [upd_same] at e; cases e; exact eD
        · rw [upd_ne hb] at e; exact ex2.w _ _ e
      · have ne : a ≠ D := fun z => by
          subst z
          exact n (ex.h.free hD)
        rw [upd_ne ne]
        exact exx.sep a e n
end
section
variable {X : Cx} {G : Hp × Hp} {W : WX} {it : Lo → RL} {tt te : Lo → R} {gg : PV → Lo → Option Lo} {elt tg iter c : Expr} {scope : Scope} {pos : Pos}
/-- without a test -/
def yes : Lo → R := fun _ => .ok (.bl true)
theorem sts_nil : PTs X [] (tT X G W yes) := by
  refine ⟨fun pins s σ H Q I h => pts_nil.run pins s σ H Q I ?_⟩
  obtain ⟨F, env, br, h⟩ := h
  obtain ⟨b, e, q⟩ := h F H _ (Ext.refl br.w) (rp_bl.mpr rfl)
  cases e
  exact q
theorem sts_one {ft : Lo → R} (h : PT X c (tT X G W ft)) : PTs X [c] (tT X G W ft) := pts_one h
theorem se_lc {ifs : List Expr} {own : List (Str × Nat)} {g : TG} (hc : X.calm = true) (hN : X.N.Nodup) (hi : PI X tg iter (tI X G W it)) (ok : BlkOk X.N X.env.scope scope own) (hgg : TgG X G g gg) (hw : TgW g (own.map (·.2)))
    (hg : ∀ (s : Shared) (H : Hp) (C : Addr) (cl : List (Str × Addr)) (fp : List Addr), PG (X.blk s H scope (compEnvC scope cl C X.env) fp) tg g)
    (ht : ∀ (s : Shared) (H : Hp) (C : Addr) (cl : List (Str × Addr)) (fp : List Addr), PTs (X.blk s H scope (compEnvC scope cl C X.env) fp) ifs (tT (X.blk s H scope (compEnvC scope cl C X.env) fp) G W0 tt))
    (he : ∀ (s : Shared) (H : Hp) (C : Addr) (cl : List (Str × Addr)) (fp : List Addr), PE (X.blk s H scope (compEnvC scope cl C X.env) fp) elt (tE (X.blk s H scope (compEnvC scope cl C X.env) fp) G W0 te)) (hs : ∀ x, foldedSetIterable iter X.env x = pure x := by intro _; rfl) :
    PE X (.ListComp elt [⟨tg, iter, ifs, 0⟩] scope pos) (tE X G W (eLc it (own.map (·.2)) gg tt te)) :=
  PE_mono (pe_lc hc hN hi ok hg ht he hs) fun σ H Q h => lc_ok hgg hw h
theorem ss_setLc (i : Nat) {y : Str} {py spos : Pos} {ifs : List Expr} {own : List (Str × Nat)} {g : TG} (hc : X.calm = true) (hN : X.N.Nodup) (hi : PI X tg iter (tI X G W it)) (ok : BlkOk X.N X.env.scope scope own) (hgg : TgG X G g gg) (hw : TgW g (own.map (·.2)))
    (hg : ∀ (s : Shared) (H : Hp) (C : Addr) (cl : List (Str × Addr)) (fp : List Addr), PG (X.blk s H scope (compEnvC scope cl C X.env) fp) tg g)
    (ht : ∀ (s : Shared) (H : Hp) (C : Addr) (cl : List (Str × Addr)) (fp : List Addr), PTs (X.blk s H scope (compEnvC scope cl C X.env) fp) ifs (tT (X.blk s H scope (compEnvC scope cl C X.env) fp) G W0 tt))
    (he : ∀ (s : Shared) (H : Hp) (C : Addr) (cl : List (Str × Addr)) (fp : List Addr), PE (X.blk s H scope (compEnvC scope cl C X.env) fp) elt (tE (X.blk s H scope (compEnvC scope cl C X.env) fp) G W0 te))
    (hsw : swapsWith (.ListComp elt [⟨tg, iter, ifs, 0⟩] scope pos) (some (.Name y py)) spos.line X.env = pure true)
    (hy : X.N[i]? = some y := by rfl) (hyl : X.env.scope.names.lookup y = some .local := by rfl) (hs : ∀ x, foldedSetIterable iter X.env x = pure x := by intro _; rfl) :
    PS X (.Assign [.Name y py] (.ListComp elt [⟨tg, iter, ifs, 0⟩] scope pos) spos) (tSt X G W (sSet i (eLc it (own.map (·.2)) gg tt te))) := by
  refine PS_mono (ps_setLc (tt := tT X G W0 tt) (te := tE X G W0 te) hc hN hy hyl hsw hi ok hg ht he hs) fun D σ H h => ?_
  obtain ⟨F, env, br, h⟩ := h
  refine lc_ok hgg hw (tE_go br h fun p v F1 H1 _ e1 b1 rp h1 => ?_)
  exact h1 F1 H1 _ (Same.refl F1) (b1.set rp)
end
end Nf

namespace Nf
open PySem PySem.Spec PyProof.Rows L2
theorem rps_nil {K : PySem.W.Frag} {mg : Str → Option Value} {F : Hp} : Rps K mg F [] [] := by simp only [Rps]
theorem rps_cons {K : PySem.W.Frag} {mg : Str → Option Value} {F : Hp} {p : PV} {ps : List PV} {v : V} {vs : List V} (h : Rp K mg F p v) (r : Rps K mg F ps vs) : Rps K mg F (p :: ps) (v :: vs) := by
  simp only [Rps]
  exact ⟨v, vs, rfl, h, r⟩
/-- the def x of the module keeps the plain function sem: np parameters ps, the last of them may be left out for dps -/
def Good (P : Program) (w : World) (K : PySem.W.Frag) (mg : Str → Option Value) (x : Str) (lvl np : Nat) (ps : List Str) (sem : List PV → R) (dps : List PV) : Prop :=
  ∃ (f : Addr) (fd : FuncData) (dvs : List V) (ds : List Value), mg x = some (.ref f) ∧ PySem.W.keepIn K (.ref f) = true ∧ (∀ base : Heap, FnOk P w K mg base (L2.CX P w) lvl f fd ps (spOf K mg np sem)) ∧ Binds K fd ps [] ∧ Vals dvs ds ∧ Binds K fd ps ds ∧ (∀ F, Rps K mg F dps dvs) ∧
    (dps = [] → ∀ (s : Shared) (us : List Value), us.length = ps.length → BindsTo s fd ⟨us, []⟩ (ps.zip us))
abbrev FnQ (K : PySem.W.Frag) (x : Str) (st : Stmt) (dvs : List V) (f : Addr) (fd : FuncData) : Prop := FunD K x x (defArgs st) (defBody st) (defScope st) dvs [] f fd
section
variable {P : Program} {w : World} {K : PySem.W.Frag} {mg : Str → Option Value} {base : Heap}
theorem fnD_ok {x qual : Str} {st : Stmt} {dv : List V} {f : Addr} {fd : FuncData} {N ps : List Str} {k np : Nat} {body : Lo → Fl} (Fn : FunD K x qual (defArgs st) (defBody st) (defScope st) dv [] f fd) (S : FnScope N ps (defScope st)) (hnp : np = ps.length)
    (hb : ∀ (cdv : Value) (A : Around) (outer : List Env) (s : Shared) (H : Hp) (E : XK) (G : Hp × Hp), Room k (A.deeper (envOfC qual (defScope st) s.heap.objs.size f cdv)) →
      PSs (cxOf (L2.CX P w) P w K mg base N qual (defScope st) f cdv A outer s H E) (defBody st) (tSt (cxOf (L2.CX P w) P w K mg base N qual (defScope st) f cdv A outer s H E) G (fun c d _ H => E c d H) body)) :
    FnOk P w K mg base (L2.CX P w) (k + 1) f fd ps (spOf K mg np (fnSem N.length np body)) := by
  refine Fn.ok S (fun vs H Q E h => ?_) (fun cdv A outer s H vs Q E hr h => ?_)
  · obtain ⟨F, qs, _, r, hl, _⟩ := h
    rw [r.len, hl, hnp]
  · obtain ⟨F, qs, sm, r, hl, po⟩ := h
    refine ⟨_, hb cdv A outer s H E (F, H) hr, F, _, br_start sm r, ?_⟩
    unfold fnSem at po
    rw [if_pos hl, ← hl] at po
    cases e : body (qs.map Slot.val ++ List.replicate (N.length - qs.length) Slot.none) with
    | nx env => rw [e] at po; exact fun F' H' σ' s' b' => po F' H' _ b'.ext (rp_non.mpr rfl)
    | rt p => rw [e] at po; exact fun F' H' v ex rv => po F' H' v ex rv
    | exc x env => rw [e] at po; exact fun F' H' σ' c d s' b' rx => po F' H' c d b'.ext rx
    | bk env => rw [e] at po; exact po.elim
    | ct env => rw [e] at po; exact po.elim
    | fail => rw [e] at po; exact po.elim
/-- without defaults -/
theorem good_mk {x : Str} {st : Stmt} {f : Addr} {fd : FuncData} {N ps : List Str} {k np : Nat} {body : Lo → Fl} (Fn : FnQ K x st [] f fd) (g : mg x = some (.ref f)) (S : FnScope N ps (defScope st)) (hnp : np = ps.length)
    (hbd : ∀ (kV doc pm : Value) (an : Option Addr) (cdv ct : Value) (us : List Value), us.length = ps.length → bindArgs (PySem.W.fnOf x x (defArgs st) (defBody st) (defScope st) .none kV doc pm an cdv ct) ⟨us, []⟩ = pure (ps.zip us))
    (hb : ∀ (base : Heap) (cdv : Value) (A : Around) (outer : List Env) (s : Shared) (H : Hp) (E : XK) (G : Hp × Hp), Room k (A.deeper (envOfC x (defScope st) s.heap.objs.size f cdv)) →
      PSs (cxOf (L2.CX P w) P w K mg base N x (defScope st) f cdv A outer s H E) (defBody st) (tSt (cxOf (L2.CX P w) P w K mg base N x (defScope st) f cdv A outer s H E) G (fun c d _ H => E c d H) body)) :
    Good P w K mg x (k + 1) np ps (fnSem N.length np body) [] :=
  ⟨f, fd, [], [], g, Fn.kp, fun base => fnD_ok Fn S hnp (hb base), Fn.bindsN hbd, .nil, Fn.bindsN hbd, fun _ => rps_nil, fun _ => Fn.bindsA hbd⟩
/-- with defaults: n are always written -/
theorem good_mkD {x : Str} {st : Stmt} {dvs : List V} {f : Addr} {fd : FuncData} {N ps : List Str} {k np : Nat} {body : Lo → Fl} {dps : List PV} (n : Nat) (Fn : FnQ K x st dvs f fd) (g : mg x = some (.ref f)) (S : FnScope N ps (defScope st)) (hnp : np = ps.length) (hd : dvs ≠ []) (hdq : dps ≠ []) (hn : n + dvs.length = ps.length) (hdp : ∀ F, Rps K mg F dps dvs)
    (hb0 : ∀ (T : Addr) (kV doc pm : Value) (an : Option Addr) (cdv ct : Value) (us its : List Value), us.length = ps.length → its.length = dvs.length →
      ∃ k, bindArgs (PySem.W.fnOf x x (defArgs st) (defBody st) (defScope st) (.ref T) kV doc pm an cdv ct) ⟨us, []⟩ = seqItems? (.ref T) >>= k ∧ k (some its.toArray) = pure (ps.zip (us ++ its.drop dvs.length)))
    (hb1 : ∀ (T : Addr) (kV doc pm : Value) (an : Option Addr) (cdv ct : Value) (us its : List Value), us.length = n → its.length = dvs.length →
      ∃ k, bindArgs (PySem.W.fnOf x x (defArgs st) (defBody st) (defScope st) (.ref T) kV doc pm an cdv ct) ⟨us, []⟩ = seqItems? (.ref T) >>= k ∧ k (some its.toArray) = pure (ps.zip (us ++ its.drop 0)))
    (hb : ∀ (base : Heap) (cdv : Value) (A : Around) (outer : List Env) (s : Shared) (H : Hp) (E : XK) (G : Hp × Hp), Room k (A.deeper (envOfC x (defScope st) s.heap.objs.size f cdv)) →
      PSs (cxOf (L2.CX P w) P w K mg base N x (defScope st) f cdv A outer s H E) (defBody st) (tSt (cxOf (L2.CX P w) P w K mg base N x (defScope st) f cdv A outer s H E) G (fun c d _ H => E c d H) body)) :
    Good P w K mg x (k + 1) np ps (fnSem N.length np body) dps := by
  obtain ⟨ds0, v0, b0⟩ := Fn.binds1 ps.length dvs.length hd (by omega) hb0
  obtain ⟨ds1, v1, b1⟩ := Fn.binds1 n 0 hd (by omega) hb1
  rw [List.drop_length] at v0
  cases v0
  exact ⟨f, fd, dvs, ds1, g, Fn.kp, fun base => fnD_ok Fn S hnp (hb base), b0, v1, b1, hdp, fun z => absurd z hdq⟩
end
section
variable {X : Cx} {G : Hp × Hp} {W : WX} {k lvl np : Nat} {ps : List Str} {dps : List PV} {x : Str} {p pos : Pos} {e : Expr} {es : List Expr} {fl : Lo → RL} {sem : List PV → R}
/-- f(..), every argument written -/
theorem se_f (Gd : Good X.prog X.w X.K X.mg x lvl np ps sem dps) (hr : Room k X.A) (tk : Takes X W) (hl : lvl ≤ k := by decide) (hg : Gl X x := by rfl) (ha : PA X (e :: es) (tA X G W fl)) (hdb : (x == ("__debug__" : Str)) = false := by decide) (he : starEach (e :: es) X.env = (false, eval e X.env) :: starEach es X.env := by rfl) (hpl : (backTo pos (starEach es X.env)).any (·.1) = false := by rfl)
    (hnp : ∀ qs, qs.length ≠ np → sem qs = .fail := by intro qs h; exact if_neg h) :
    PE X (.Call (.Name x p) (e :: es) [] pos) (tE X G W (eCall sem [] fl)) := by
  obtain ⟨f, fd, dvs, ds, g, kp, ok, b0, _, _, _, _⟩ := Gd
  exact se_call (ok X.base) (hr.mono hl) tk g kp b0 .nil (fun _ => rps_nil) hg ha hdb he hpl hnp
/-- .. the defaults left out -/
theorem se_fD (Gd : Good X.prog X.w X.K X.mg x lvl np ps sem dps) (hr : Room k X.A) (tk : Takes X W) (hl : lvl ≤ k := by decide) (hg : Gl X x := by rfl) (ha : PA X (e :: es) (tA X G W fl)) (hdb : (x == ("__debug__" : Str)) = false := by decide) (he : starEach (e :: es) X.env = (false, eval e X.env) :: starEach es X.env := by rfl) (hpl : (backTo pos (starEach es X.env)).any (·.1) = false := by rfl)
    (hnp : ∀ qs, qs.length ≠ np → sem qs = .fail := by intro qs h; exact if_neg h) :
    PE X (.Call (.Name x p) (e :: es) [] pos) (tE X G W (eCall sem dps fl)) := by
  obtain ⟨f, fd, dvs, ds, g, kp, ok, b0, hv, b1, hd, _⟩ := Gd
  exact se_call (ok X.base) (hr.mono hl) tk g kp b1 hv hd hg ha hdb he hpl hnp
/-- a constant of the module -/
theorem se_glob {v : V} {u : Value} {q : PV} (hg : Gl X x) (hm : X.mg x = some u) (r : RelV v u) (hq : ∀ F, Rp X.K X.mg F q v) (hd : (x == ("__debug__" : Str)) = false := by decide) : PE X (.Name x pos) (tE X G W (eC q)) :=
  PE_mono (pe_glob hg hm r hd) fun σ H Q ⟨F, env, b, h⟩ => h F H _ (Ext.refl b.w) (hq F)
/-- raise x('..') by the head's facts -/
theorem ss_raiseF {m : Str} {j : Nat} {p2 p3 : Pos} (hc : X.calm = true) (tk : Takes X W) (gC : X.mg x = some (.ref (He.ga X.K x))) (c : (He.Fa.exc x).ok X.K = true) (hg : Gl X x := by rfl)
    (hdb : (x == ("__debug__" : Str)) = false := by decide) : PS X (.Raise (some (.Call (.Name x p) [.Constant (.str m) j p2] [] pos)) none p3) (tSt X G W (sRaise x)) := by
  obtain ⟨h1, h2, h3, h4⟩ := He.exc_ok c
  exact ss_raise hc tk PySem.F.excBase_ValueError h1 gC h2 (raises_own h3 h4) hg hdb
end

theorem rps_ints {K : PySem.W.Frag} {mg : Str → Option Value} {F : Hp} : ∀ ns : List Int, Rps K mg F (ns.map PV.int) (ns.map V.int)
  | [] => rps_nil
  | n :: ns => rps_cons (rp_int.mpr rfl) (rps_ints ns)
/-- the end: the law's def, called with any script, tells True -/
theorem nf_end {l : PySem.W.OpenLaw} {n k : Nat} {q : Program} {loose : List Str} {XP : (Str → Option Value) → Heap → Prop} {YP : World → Heap → Prop} {d : DefRec} {x : Str} {sem : List PV → R}
    (hn : l.most = some n) (hn2 : n ≤ sizeLine) (hdf : d.params.defaults = []) (hr : Room k callerA)
    (main : ∀ ns : List Int, ns.length ≤ n → (∀ z ∈ ns, Builtin.Int.intBits z ≤ 1048576) → sem [.lst (ns.map PV.int)] = .ok (.bl true))
    (F : ∀ (w : World) (mg : Str → Option Value) (fa : Addr) (h : Heap), YP w h → h.Ns mainGlobals mg → mg d.name = some (.ref fa) →
      ∃ (K : PySem.W.Frag) (fd : FuncData), K.In h ∧ (∀ (s : Shared) (u : Value), BindsTo s fd ⟨[u], []⟩ [(x, u)]) ∧ ∀ base : Heap, FnOk l.prog w K mg base (L2.CX l.prog w) k fa fd [x] (spOf K mg 1 sem)) :
    PySem.W.WalkO q loose XP YP l.row.toRowW d [] (fun f vs => PySem.call f vs) := by
  refine Att.attach_callB hn hdf fun w _ s1 mg mb fa _ _ _ _ a vs ns Gr Y _ _ _ hmg hobj hints hlen hbit hg => ?_
  obtain ⟨K, fd, KX, hb, hF⟩ := F w mg fa _ Y Gr.T.g hmg
  refine law_call KX Gr.T.g Gr.T.b Gr.T.builtins Gr.T.nolimit hg hobj hints (Nat.le_trans hlen hn2) hr (fun base _ _ => hF base) hb (fun H _ hS => ?_) fun H e s' hcx => ?_
  · refine ⟨H, [.lst (ns.map PV.int)], Same.refl H, rps_cons (rp_lst.mpr ⟨a, _, rfl, hS, rps_ints ns⟩) rps_nil, rfl, ?_⟩
    rw [main ns hlen hbit]
    exact fun F' H' v _ rv => rp_bl.mp rv
  · obtain ⟨_, _, _, _, _, _, _, _, _, _, _, _, z⟩ := hcx
    exact z
/-- from the law's own promise -/
theorem nf_fn {P : Program} {w : World} {K : PySem.W.Frag} {mg : Str → Option Value} {h : Heap} {p : Str} {sem : List PV → R} {lvl : Nat} {fa : Addr} {x : Str} (X : K.In h) (hfa : mg x = some (.ref fa)) (Gd : Good P w K mg x lvl 1 [p] sem []) :
    ∃ (K : PySem.W.Frag) (fd : FuncData), K.In h ∧ (∀ (s : Shared) (u : Value), BindsTo s fd ⟨[u], []⟩ [(p, u)]) ∧ ∀ base : Heap, FnOk P w K mg base (L2.CX P w) lvl fa fd [p] (spOf K mg 1 sem) := by
  obtain ⟨f, fd, dvs, ds, g, _, ok, _, _, _, _, bd⟩ := Gd
  have e := hfa.symm.trans g
  cases e
  exact ⟨K, fd, X, fun s u => bd rfl s [u] rfl, ok⟩
end Nf

namespace Nf
open PySem PySem.Spec PyProof.Rows L2
/-! ### try: body, except C as n: suite; the exception caught is tracked from there on -/
section
variable {X : Cx} {pins : List (Addr × Obj)} {σ : L2.St} {H : Hp} {s : Shared} {a : Addr} {oe : Obj} {cls : Value} {d : Option Addr}
theorem Inv.track (I : Inv X pins σ H s) (hn : H a = none) (h0 : X.s_0.heap.get? a = none) (nL : a ≠ X.env.locals) (np : ∀ p ∈ X.pn ++ pins, p.1 ≠ a) (he : s.heap.get? a = some oe) (hz : Zc cls d oe) (hd : ∃ vs, oe.data = .fields vs) :
    Inv X pins σ (upd H a (exHO cls a d)) s where
  ok := I.ok
  os := I.os
  bare := I.bare
  base := ⟨I.base.keep, I.base.slot, fun b o e n hx => by
      have hb : b ≠ a := fun z => by rw [z, h0] at e; cases e
      rw [upd_ne hb]
      exact I.base.free b o e n hx, I.base.there, fun b xs e => by
      have q := I.base.tups b xs e
      rw [upd_ne (ne_of_none q hn)]
      exact q, fun b o u e => by
      have q := I.base.frzs b o u e
      rw [upd_ne (ne_of_none q hn)]
      exact q, fun b ps e => by
      obtain ⟨more, q⟩ := I.base.tbls b ps e
      exact ⟨more, by rw [upd_ne (ne_of_none q hn)]; exact q⟩⟩
  loc := I.loc
  cell := I.cell
  free := by rw [upd_ne (Ne.symm nL)]; exact I.free
  freeC := fun x c e => by
    obtain ⟨v, o, ho, hv⟩ := I.cell x c e
    have hc : c ≠ a := fun z => by
      rw [z, he] at ho
      cases ho
      obtain ⟨vs, hd⟩ := hd
      rw [hd] at hv
      cases hv
    rw [upd_ne hc]
    exact I.freeC x c e
  pin := fun p hp => by
    obtain ⟨h1, h2, h3⟩ := I.pin p hp
    exact ⟨h1, by rw [upd_ne (np p hp)]; exact h2, h3⟩
  hok := fun b o e => by
    by_cases hb : b = a
    · subst hb
      rw [upd_same] at e
      cases e
      exact ⟨⟨oe, he, hz, hd⟩, ⟨oe, he⟩, fun h1 h2 p k => by
        obtain ⟨o, q1, q2⟩ := p
        exact ⟨o, k o q1, q2⟩⟩
    · rw [upd_ne hb] at e
      exact (I.hok b o e).stay (fun c u _ q => q) (fun c q => by rw [upd_ne (ne_of_none q hn)]; exact q) fun c xs q => by rw [upd_ne (ne_of_none q hn)]; exact q
  len := I.len
theorem Inv.toSuite (I : Inv X pins σ H s) : Inv (X.suite a (X.pn ++ pins)) [] σ H s :=
  ⟨I.ok.suite _ _, I.os, I.bare, I.base, I.loc, I.cell, I.free, I.freeC, fun p hp => I.pin p (by rw [List.append_nil] at hp; exact hp), I.hok, I.len⟩
theorem Inv.ofSuite {pn' : List (Addr × Obj)} (I : Inv (X.suite a (X.pn ++ pins)) pn' σ H s) (ok : X.Ok) : Inv X pins σ H s :=
  ⟨ok, I.os, I.bare, I.base, I.loc, I.cell, I.free, I.freeC, fun p hp => I.pin p (List.mem_append_left _ hp), I.hok, I.len⟩
end
def wTr (K : PySem.W.Frag) (c : Value) (i : Nat) (ts : TS) (Wout : WX) (D : Ends) : WX := fun cls d σ H =>
  ∃ b, PySem.W.exmOne K cls c = some b ∧ (b = true → ∀ a, H a = none → ts { nx := fun σ' H' => D.nx (σ'.set i none) H', rt := D.rt, bk := fun σ' H' => D.bk (σ'.set i none) H', ct := fun σ' H' => D.ct (σ'.set i none) H' } (σ.set i (some (.ref a))) (upd H a (exHO cls a d))) ∧
    (b = false → Wout cls d σ H)
section
variable {X : Cx} {x n : Str} {c : Value} {i : Nat} {body suite : List Stmt} {b₀ : Stmt} {np pos pos' : Pos} {tb : WX → TS} {ts : TS} {Wout : WX}
theorem ps_try_tr (hx : X.ex = []) (hs : X.stack = X.env :: X.outer) (hf : X.env.frame = some X.env.locals) (hN : X.N.Nodup) (hi : X.N[i]? = some n) (hln : X.env.kindOf n = some .local) (hc : Names X x c) (tk : Takes X Wout)
    (hb : ∀ (W : WX) (pn : List (Addr × Obj)) (xe : Value → Shared → Prop), Takes (X.tr pn xe) W → PassesOwn (model X.prog X.w) X.A X.env xe → PSs (X.tr pn xe) body (tb W))
    (hsu : ∀ (a : Addr) (pn : List (Addr × Obj)), PSs (X.suite a pn) (b₀ :: suite) ts) :
    PS X (.Try body [.ExceptHandler (some (.Name x np)) (some n) (b₀ :: suite) pos'] [] [] pos) (fun D σ H => tb (wTr X.K c i ts Wout D) D σ H) := by
  refine ⟨fun pins s σ H D I h => ?_⟩
  have ok := I.ok
  have hfr : X.A.frames = some (X.env :: X.outer) := by rw [ok.frames, hs]
  have hloc : Loc X.env.scope n := .inl hln
  refine wpAny_Try_except ?_
  refine wpAny_mono ((hb (wTr X.K c i ts Wout D) (X.pn ++ pins) (fun e s₁ => wpAny (model X.prog X.w) X.A (noteFrame e X.env) (fun _ s₂ => wpAny (model X.prog X.w) X.A (setFlight e none) (fun _ s₃ =>
    wpAny (model X.prog X.w) X.A (handleBy e X.env [.ExceptHandler (some (.Name x np)) (some n) (b₀ :: suite) pos']) (SP X pins D) X.xe s₃) X.xe s₂) X.xe s₁) (fun u s' xx => ?_) PassesOwn.looking).run [] s σ H D (I.toTry _) h) (fun f s1 hsp => ?_) (fun e s1 he => he)
  · obtain ⟨a, B, sI, pins', σ', H', cls, d, rfl, J', nb, up, sky, na, os, ag, b, hb1, hyes, hno⟩ := xx
    have J : Inv X pins σ' H' sI := J'.ofTry ok
    have sky' : Sky B (X.env :: X.outer) a (Zc cls d) X.env.locals s'.heap := by rw [← hs]; exact sky
    show wpAny (model X.prog X.w) X.A (noteFrame (.ref a) X.env) _ _ _
    refine Sky.land Zc.steady hfr hf sky' fun h3 fl3 up3 => ?_
    have J3 : Inv X pins σ' H' { s' with heap := h3 } := J.landed nb fl3.1 (up.trans up3) os ag
    obtain ⟨oe3, vs3, he3, hz3, hd3⟩ := fl3.there
    have notFr : ∀ {h : Heap} {o : Obj} {vs : Array Value}, h.FunFrames B (X.env :: X.outer) → h.get? a = some o → o.data = .fields vs → a ∉ frs (X.env :: X.outer) := fun {h o vs} ff e dd hm => by
      obtain ⟨_, o', e', hnf⟩ := ff.mem hm
      rw [e] at e'; cases e'
      exact hnf _ dd
    have nfr := notFr fl3.2.2.1 he3 hd3
    have nL : a ≠ X.env.locals := fun z => nfr (List.mem_filterMap.mpr ⟨X.env, List.mem_cons_self, by rw [hf, z]⟩)
    have nF : a ∉ X.fs := fun hm => by
      obtain ⟨e, he, q⟩ := List.mem_filterMap.mp hm
      exact nfr (List.mem_filterMap.mpr ⟨e, List.mem_cons_of_mem _ he, q⟩)
    have S3 := J3.suite he3 hd3 na nL nF
    refine wpAny_handleBy_cons (codeAny_handlers_test ?_) (by intro q; cases q)
    have LT : PySem.W.Looks (model X.prog X.w) h3 (typeOf (.ref a)) cls := fun A Q E s k q => wpAny_typeOf_ref (k _ _ he3) (by rw [hz3.1]; exact q)
    have LM := PySem.W.exm_one (M := model X.prog X.w) (J3.kIn) LT hb1
    have test : ∀ {Q : Value → Shared → Prop} {E : Value → Shared → Prop}, Q c { s' with heap := h3 } → wpAny (model X.prog X.w) (X.A.mark (some (.ref a))) (eval (.Name x np) X.env) Q E { s' with heap := h3 } := fun {Q E} q => by
      obtain ⟨hg, hdbg, hm | ⟨hm, hv, hnn⟩⟩ := hc
      · exact ld_glob (X := X.suite a ((a, oe3) :: (X.pn ++ pins))) S3 hg hm q hdbg
      · exact ld_blt (X := X.suite a ((a, oe3) :: (X.pn ++ pins))) S3 hg hm hv q hnn hdbg
    refine test (LM.here ?_)
    cases b with
    | true =>
      refine codeAny_handlers_suite_as ?_
      refine HandSPX.lands_againZ fl3 fun h4 fl4 up4 => ?_
      have J4 : Inv X pins σ' H' { s' with heap := h4 } := J.landed nb fl4.1 ((up.trans up3).trans up4) os ag
      obtain ⟨oe4, vs4, he4, hz4, hd4⟩ := fl4.there
      have gI : sI.heap.get? a = none := by
        cases q : sI.heap.get? a with
        | none => rfl
        | some o =>
          have h5 := nb a o q (by rw [hs]; exact nfr)
          rw [fl4.2.1] at h5
          cases h5
      have g0 : X.s_0.heap.get? a = none := by
        cases q : X.s_0.heap.get? a with
        | none => rfl
        | some o =>
          obtain ⟨o', e'⟩ := J.base.there a o q (by rw [hx]; exact fun z => nomatch z)
          rw [gI] at e'
          cases e'
      have npin : ∀ p ∈ X.pn ++ pins, p.1 ≠ a := fun p hp z => by
        have := (J.pin p hp).1
        rw [z, gI] at this
        cases this
      have K4 := Inv.track J4 na g0 nL npin he4 hz4 ⟨_, hd4⟩
      have S4 := Inv.toSuite (a := a) K4
      refine store_ok (X := X.suite a (X.pn ++ pins)) (v := .ref a) S4 hN hi hloc rfl (fun s5 S5 => ?_) (.inr hln)
      refine wpAny_mono ((hsu a (X.pn ++ pins)).run [] s5 _ _ _ S5 (hyes rfl a na)) (fun f s6 hsp => ?_) (fun _ _ z => False.elim z)
      have end_ : ∀ {σ6 : L2.St} {H6 : Hp} {Q : Shared → Prop}, Inv (X.suite a (X.pn ++ pins)) [] σ6 H6 s6 → (∀ s7, Inv X pins (σ6.set i none) H6 s7 → Q s7) →
          wpAny (model X.prog X.w) X.A (do bindName X.env n .none; unbindBehindTheSuite X.env n pos') (fun _ s7 => Q s7) X.xe s6 := fun {σ6 H6 Q} S6 hq => gone_ok (Inv.ofSuite S6 ok) hN hi hln hq
      cases f with
      | next =>
        obtain ⟨σ6, H6, S6, q6⟩ := hsp
        exact end_ S6 fun s7 J7 => ⟨_, _, J7, q6⟩
      | brk =>
        obtain ⟨σ6, H6, S6, q6⟩ := hsp
        exact end_ S6 fun s7 J7 => ⟨_, _, J7, q6⟩
      | cont =>
        obtain ⟨σ6, H6, S6, q6⟩ := hsp
        exact end_ S6 fun s7 J7 => ⟨_, _, J7, q6⟩
      | ret u =>
        obtain ⟨v6, σ6, H6, S6, r6, q6⟩ := hsp
        exact end_ S6 fun s7 J7 => ⟨_, _, _, J7, r6, q6⟩
    | false =>
      show wpAny _ X.A (handleBy (.ref a) X.env []) _ _ _
      refine wpAny_handleBy_nil ?_
      obtain ⟨k1, k2, k3, oe, vs, T, oT, ts', he, hz, hd, h1, hr⟩ := id fl3
      unfold PySem.passOn
      refine wpAny_bind (wpAny_field he hd h1 ?_)
      rw [if_neg (show ¬ ((Value.ref T == Value.none) = true) from by simp)]
      have fin : wpAny (model X.prog X.w) X.A (setFlight (.ref a) X.env.frame) (fun _ s4 => wpAny (model X.prog X.w) X.A (throw (.ref a) : Sem Flow) (SP X pins D) X.xe s4) X.xe { s' with heap := h3 } := by
        rw [hf]
        refine HandSPX.setFlight_upZ fl3 fun h4 hh4 up4 => wpAny_throw (tk _ _ ?_)
        exact ⟨a, B, sI, pins, σ', H', cls, d, rfl, J, nb, (up.trans up3).trans up4, .inr (.inr (by rw [hs]; exact hh4)), na, os, ag, hno rfl⟩
      first
        | exact wpAny_bind (wpAny_pure (wpAny_bind fin))
        | exact wpAny_bind fin
  · cases f with
    | next =>
      obtain ⟨σ', H', J', q⟩ := hsp
      exact wpAny_execs_nil ⟨σ', H', J'.ofTry ok, q⟩
    | brk =>
      obtain ⟨σ', H', J', q⟩ := hsp
      exact ⟨σ', H', J'.ofTry ok, q⟩
    | cont =>
      obtain ⟨σ', H', J', q⟩ := hsp
      exact ⟨σ', H', J'.ofTry ok, q⟩
    | ret u =>
      obtain ⟨v, σ', H', J', r, q⟩ := hsp
      exact ⟨v, σ', H', J'.ofTry ok, r, q⟩
end
/-! the plain form -/
def lookB (c : Str) : List (Str × Bool) → Option Bool
  | [] => none
  | (x, b) :: r => if x = c then some b else lookB c r
theorem lookB_mem {c : Str} {b : Bool} : ∀ {l : List (Str × Bool)}, lookB c l = some b → (c, b) ∈ l
  | (x, k) :: r, h => by
    unfold lookB at h
    split at h
    · rename_i hx
      cases h
      subst hx
      exact List.mem_cons_self
    · exact List.mem_cons_of_mem _ (lookB_mem h)
def exnOf (x : PX) : PV := .exn x.c (match x.d with
  | none => []
  | some (f, p) => [.str f, p])
def sTry (ms : List (Str × Bool)) (i : Nat) (body suite : Lo → Fl) : Lo → Fl := fun env => match body env with
  | .exc x e => match lookB x.c ms with
    | some true => match suite (e.set i (Slot.val (exnOf x))) with
      | .nx e2 => .nx (e2.set i Slot.none)
      | .bk e2 => .bk (e2.set i Slot.none)
      | .ct e2 => .ct (e2.set i Slot.none)
      | .rt p => .rt p
      | _ => .fail
    | some false => .exc x e
    | none => .fail
  | r => r
abbrev wNo : WX := fun _ _ _ _ => False
theorem takes_no {X : Cx} : Takes X wNo := fun u s' ⟨_, _, _, _, _, _, _, _, _, _, _, _, _, _, _, _, z⟩ => z.elim
section
variable {X : Cx} {G : Hp × Hp} {W : WX} {x n : Str} {c : Value} {i : Nat} {body suite : List Stmt} {b₀ : Stmt} {np pos pos' : Pos} {fb fs : Lo → Fl} {ms : List (Str × Bool)}
theorem ss_try (hx : X.ex = []) (hs : X.stack = X.env :: X.outer) (hf : X.env.frame = some X.env.locals) (hN : X.N.Nodup) (hi : X.N[i]? = some n) (hln : X.env.kindOf n = some .local) (hc : Names X x c) (tk : Takes X W)
    (hms : ∀ q ∈ ms, ∃ C, X.mg q.1 = some (.ref C) ∧ PySem.W.exmOne X.K (.ref C) c = some q.2)
    (hb : ∀ (W : WX) (pn : List (Addr × Obj)) (xe : Value → Shared → Prop), Takes (X.tr pn xe) W → PassesOwn (model X.prog X.w) X.A X.env xe → PSs (X.tr pn xe) body (tSt X G W fb))
    (hsu : ∀ (a : Addr) (pn : List (Addr × Obj)), PSs (X.suite a pn) (b₀ :: suite) (tSt X G wNo fs)) :
    PS X (.Try body [.ExceptHandler (some (.Name x np)) (some n) (b₀ :: suite) pos'] [] [] pos) (tSt X G W (sTry ms i fb fs)) := by
  refine PS_mono (ps_try_tr hx hs hf hN hi hln hc tk hb hsu) fun D σ H h => ?_
  obtain ⟨F, env, br, h⟩ := h
  refine ⟨F, env, br, ?_⟩
  unfold sTry at h
  cases e1 : fb env with
  | nx e => rw [e1] at h; exact h
  | rt p => rw [e1] at h; exact h
  | bk e => rw [e1] at h; exact h
  | ct e => rw [e1] at h; exact h
  | fail => rw [e1] at h; exact h
  | exc px e =>
    rw [e1] at h
    dsimp only at h
    intro F' H' σ' cl d sm b' rx
    obtain ⟨C, hC, ecl, hd⟩ := rx
    subst ecl
    cases e2 : lookB px.c ms with
    | none => rw [e2] at h; exact h.elim
    | some b =>
      rw [e2] at h
      obtain ⟨C', hC', hx⟩ := hms _ (lookB_mem e2)
      have eC : C' = C := by
        rw [hC] at hC'
        cases hC'
        rfl
      subst eC
      refine ⟨b, hx, fun hbt a ha => ?_, fun hbf => ?_⟩
      · subst hbt
        dsimp only at h
        have ex : Ext F' H' (upd F' a (exHO (.ref C') a d)) (upd H' a (exHO (.ref C') a d)) := Ext.new b'.ext.w ha
        have rp : Rp X.K X.mg (upd F' a (exHO (.ref C') a d)) (exnOf px) (.ref a) := by
          refine rp_exn.mpr ⟨a, C', d, ?_⟩
          cases ed : px.d with
          | none =>
            rw [ed] at hd
            exact ⟨[], rfl, upd_same, hC, rps_nil, .inl ⟨rfl, hd⟩⟩
          | some fp =>
            rw [ed] at hd
            obtain ⟨dd, v, g1, g2, g3⟩ := hd
            exact ⟨[.str fp.1, v], rfl, upd_same, hC, rps_cons (rp_str.mpr rfl) (rps_cons (g3.mono ex.f) rps_nil), .inr ⟨fp.1, v, dd, rfl, g1, ex.f _ _ g2⟩⟩
        refine ⟨_, _, (b'.mono ex).set rp, ?_⟩
        have sm2 : Same F (upd F' a (exHO (.ref C') a d)) := sm.trans ex.f
        cases e3 : fs (e.set i (Slot.val (exnOf px))) with
        | nx e4 =>
          rw [e3] at h
          exact fun F2 H2 σ2 s2 b2 => h F2 H2 _ (sm2.trans s2) (b2.unset i)
        | bk e4 =>
          rw [e3] at h
          exact fun F2 H2 σ2 s2 b2 => h F2 H2 _ (sm2.trans s2) (b2.unset i)
        | ct e4 =>
          rw [e3] at h
          exact fun F2 H2 σ2 s2 b2 => h F2 H2 _ (sm2.trans s2) (b2.unset i)
        | rt p => rw [e3] at h; exact h
        | exc y e4 => rw [e3] at h; exact h.elim
        | fail => rw [e3] at h; exact h.elim
      · subst hbf
        dsimp only at h
        exact h F' H' σ' _ d sm b' ⟨C', hC, rfl, hd⟩
end
/-! ### isinstance(e, C), e an exception that was caught -/
def rIsX (K : PySem.W.Frag) : List V → Hp → VK → Prop := fun xs H Q => ∃ (a D : Addr) (c : V) (cv : Value) (b : Bool), xs = [.ref a, c] ∧ H a = some (exHO (.ref D) a none) ∧ ExcC K D ∧ (∀ u, RelV c u → u = cv) ∧ PySem.W.kitOne K (.ref D) cv = some b ∧ Q (.bl b) H
theorem call_isX {X : Cx} : CallR X (.builtin "isinstance") (rIsX X.K) := by
  intro pins s σ H xs us Q I r h
  obtain ⟨a, D, c, cv, b, rfl, ha, C, hcv, e, q⟩ := h
  cases r with
  | cons rx rr =>
    cases rr with
    | cons rt rr =>
      cases rr
      cases rx
      have ec := hcv _ rt
      subst ec
      obtain ⟨⟨oe, hget, hz, vs, hv⟩, _⟩ := I.hok a _ ha
      have J : PySem.W.InstAt s.heap a oe D none := by
        obtain ⟨oc, od, oda, osl⟩ := oe
        obtain ⟨h1, h2⟩ := hz
        dsimp only at h1 h2 hv
        subst h1 h2 hv
        exact ⟨hget, rfl, rfl, trivial⟩
      exact PySem.W.kia_one (PySem.W.handS_kitx_exc C.hg C.hk C.hs C.hd C.ha C.hn C.ht C.hm) I.kIn J e (fun z => nomatch z) fun tk => ⟨.bl b, H, I.kept (t' := tk) fun _ _ z => z, rfl, q⟩
def isxR (tbl : List (Str × Bool)) : PV → R
  | .exn c [] => match lookB c tbl with
    | some b => .ok (.bl b)
    | none => .fail
  | _ => .fail
def eIsx (tbl : List (Str × Bool)) (fa : Lo → R) : Lo → R := e1 (isxR tbl) fa
section
variable {X : Cx} {G : Hp × Hp} {W : WX} {a : Expr} {fa : Lo → R} {p p2 pos : Pos} {tbl : List (Str × Bool)}
theorem isx_aux {v : V} {cv : Value} (hcv : ∀ u, RelV v u → u = cv) (ht : ∀ q ∈ tbl, ∃ D, X.mg q.1 = some (.ref D) ∧ ExcC X.K D ∧ PySem.W.kitOne X.K (.ref D) cv = some q.2) {T : Expr} (hT : PE X T (tC v)) (hgl : Gl X "isinstance") (hm : X.mg "isinstance" = none) (ha : PE X a (tE X G W fa))
    (he : starEach [a, T] X.env = (false, eval a X.env) :: starEach [T] X.env) (he2 : starEach [T] X.env = [(false, eval T X.env)]) (hpl : (backTo pos (starEach [T] X.env)).any (·.1) = false) :
    PE X (.Call (.Name "isinstance" p) [a, T] [] pos) (tE X G W (eIsx tbl fa)) := by
  refine PE_mono (pe_callB call_isX hgl hm (by decide +kernel) (pa_cons ha (pa_cons hT pa_nil he2) he) (by decide) (by decide) he hpl) fun σ H Q h => ?_
  obtain ⟨F, env, br, h⟩ := h
  refine tE_bind br h fun q u F1 H1 _ e1 b1 rp h1 => ?_
  unfold isxR at h1
  split at h1
  · rename_i c
    split at h1
    · rename_i b e
      obtain ⟨D, hD, C, hk⟩ := ht _ (lookB_mem e)
      obtain ⟨y, D', d, us, rfl, hy, hD', hr, hd⟩ := rp_exn.mp rp
      have eD : D' = D := by
        rw [hD] at hD'
        cases hD'
        rfl
      subst eD
      have hus : us = [] := by simpa only [Rps] using hr
      subst hus
      rcases hd with ⟨_, hd⟩ | ⟨f, w, dd, hd, _⟩
      · subst hd
        exact ⟨y, D', v, cv, b, rfl, b1.w _ _ hy, C, hcv, hk, h1 F1 H1 _ (Ext.refl b1.w) (rp_bl.mpr rfl)⟩
      · cases hd
    · exact h1.elim
  · exact h1.elim
theorem se_isxO {y : Str} {Y : Addr} (hgl : Gl X "isinstance") (hm : X.mg "isinstance" = none) (hgT : Gl X y) (hmT : X.mg y = some (.ref Y)) (ht : ∀ q ∈ tbl, ∃ D, X.mg q.1 = some (.ref D) ∧ ExcC X.K D ∧ PySem.W.kitOne X.K (.ref D) (.ref Y) = some q.2) (ha : PE X a (tE X G W fa)) (hdb : (y == ("__debug__" : Str)) = false := by decide)
    (he : starEach [a, .Name y p2] X.env = (false, eval a X.env) :: starEach [.Name y p2] X.env := by rfl) (he2 : starEach [.Name y p2] X.env = [(false, eval (.Name y p2) X.env)] := by rfl) (hpl : (backTo pos (starEach [.Name y p2] X.env)).any (·.1) = false := by rfl) :
    PE X (.Call (.Name "isinstance" p) [a, .Name y p2] [] pos) (tE X G W (eIsx tbl fa)) :=
  isx_aux (v := .ref Y) (cv := .ref Y) (fun _ h => h) ht (pe_glob hgT hmT rfl hdb) hgl hm ha he he2 hpl
theorem se_isxB {T : Str} {N : String} (hgl : Gl X "isinstance") (hm : X.mg "isinstance" = none) (hgT : Gl X T) (hmT : X.mg T = none) (hv : bootBuiltins T = some (.type N)) (ht : ∀ q ∈ tbl, ∃ D, X.mg q.1 = some (.ref D) ∧ ExcC X.K D ∧ PySem.W.kitOne X.K (.ref D) (.type N) = some q.2) (ha : PE X a (tE X G W fa)) (hn : T ≠ "__name__" := by decide) (hdb : (T == ("__debug__" : Str)) = false := by decide)
    (he : starEach [a, .Name T p2] X.env = (false, eval a X.env) :: starEach [.Name T p2] X.env := by rfl) (he2 : starEach [.Name T p2] X.env = [(false, eval (.Name T p2) X.env)] := by rfl) (hpl : (backTo pos (starEach [.Name T p2] X.env)).any (·.1) = false := by rfl) :
    PE X (.Call (.Name "isinstance" p) [a, .Name T p2] [] pos) (tE X G W (eIsx tbl fa)) :=
  isx_aux (v := .ty N) (cv := .type N) (fun _ h => h) ht (pe_bltn (v := .ty N) hgT hmT hv rfl hn hdb) hgl hm ha he he2 hpl
end
/-! ### the head's further facts -/
theorem chkX_ok {K : PySem.W.Frag} {x : Str} (h : chkX K x = true) : ExcC K (He.ga K x) := by
  obtain ⟨h1, h⟩ := He.ba h
  obtain ⟨h2, h⟩ := He.ba h
  obtain ⟨h3, h⟩ := He.ba h
  obtain ⟨h4, h⟩ := He.ba h
  obtain ⟨h5, h⟩ := He.ba h
  obtain ⟨h6, h⟩ := He.ba h
  obtain ⟨h7, h8⟩ := He.ba h
  exact ⟨of_decide_eq_true h1, of_decide_eq_true h2, of_decide_eq_true h3, h4, of_decide_eq_true h5, of_decide_eq_true h6, of_decide_eq_true h7, of_decide_eq_true h8⟩
end Nf

namespace Nf
open PySem PySem.Spec PyProof.Rows L2
/-! ### n.bit_length() -/
def gBits : PV → R
  | .int i => .ok (.int (Builtin.Int.intBits i : Nat))
  | _ => .fail
section
variable {X : Cx} {G : Hp × Hp} {W : WX} {o : Expr} {fa : Lo → R} {apos pos : Pos}
theorem se_bits (ho : PE X o (tE X G W fa)) (hbase : attributeBase o "bit_length" X.env (eval o X.env) = eval o X.env := by rfl) (hline : (apos.endLine == pos.line) = true := by rfl) :
    PE X (.Call (.Attribute o "bit_length" apos) [] [] pos) (tE X G W (e1 gBits fa)) := by
  refine PE_mono (pe_bits ho hbase hline) fun σ H Q h => ?_
  obtain ⟨F, env, br, h⟩ := h
  refine tE_bind br h fun p v F1 H1 _ e1 b1 rp h1 => ?_
  cases p <;> first
    | exact ⟨_, rp_int.mp rp, h1 F1 H1 _ (Ext.refl b1.w) (rp_int.mpr rfl)⟩
    | exact h1.elim
end
/-! ### a, b = x, y -/
def sPar (i j : Nat) (fl : Lo → RL) : Lo → Fl := fun env => (fl env).go env fun ps => match ps with
  | [p, q] => .nx ((env.set i (Slot.val p)).set j (Slot.val q))
  | _ => .fail
section
variable {X : Cx} {G : Hp × Hp} {W : WX} {fl : Lo → RL}
theorem ss_par (i j : Nat) {x y : Str} {a b : Expr} {px py pt pos : Pos} {kt k2 pt2} (hN : X.N.Nodup) (ha : PA X [a, b] (tA X G W fl)) (hc : X.calm = true := by rfl) (hi : X.N[i]? = some x := by rfl) (hj : X.N[j]? = some y := by rfl) (hij : i ≠ j := by decide)
    (hx : X.env.scope.names.lookup x = some .local := by rfl) (hy : X.env.scope.names.lookup y = some .local := by rfl)
    (hw : swappedStores [.Tuple [.Name x px, .Name y py] kt pt] (.Tuple [a, b] k2 pt2) X.env = pure (some [x, y]) := by rfl)
    (hs : swapsWithSole [.Tuple [.Name x px, .Name y py] kt pt] (.Tuple [a, b] k2 pt2) pos.line X.env = pure false := by rfl) :
    PS X (.Assign [.Tuple [.Name x px, .Name y py] kt pt] (.Tuple [a, b] k2 pt2) pos) (tSt X G W (sPar i j fl)) := by
  refine PS_mono (ps_par hc hN hi hj hij hx hy ha hw hs) fun D σ H h => ?_
  obtain ⟨F, env, br, h⟩ := h
  refine tA_go br h fun ps vs F1 H1 e1 b1 rp h1 => ?_
  split at h1
  · obtain ⟨v, u, rfl, r1, r2⟩ := rps2 rp
    exact ⟨v, u, rfl, h1 F1 H1 _ (Same.refl F1) ((b1.set r1).set r2)⟩
  · exact h1.elim
end
/-! ### x in (a, b, ..), not in; one sign in a text -/
def flVs : List PV → Option (List V)
  | [] => some []
  | p :: ps => match flV p, flVs ps with
    | some v, some vs => some (v :: vs)
    | _, _ => none
theorem flVs_of {K : PySem.W.Frag} {mg : Str → Option Value} {F : Hp} : ∀ {ps : List PV} {vs us : List V}, Rps K mg F ps vs → flVs ps = some us → vs = us ∧ us.all flatV = true
  | [], vs, us, r, e => by
    simp only [Rps] at r
    cases e
    exact ⟨r, rfl⟩
  | p :: ps, vs, us, r, e => by
    simp only [Rps] at r
    obtain ⟨v, r', rfl, h1, h2⟩ := r
    simp only [flVs] at e
    split at e
    · rename_i v' us' e1 e2
      cases e
      obtain ⟨rfl, h3⟩ := flVs_of h2 e2
      have e3 := flV_of h1 e1
      subst e3
      refine ⟨rfl, ?_⟩
      rw [List.all_cons, h3, Bool.and_true]
      cases p <;> first | (cases e1; rfl) | cases e1
    · cases e
theorem flV_flat {p : PV} {v : V} (e : flV p = some v) : flatV v = true := by cases p <;> first | (cases e; rfl) | cases e
def inP (p : PV) (l : List PV) : Option Bool := match flV p, flVs l with
  | some v, some vs => some (inV v vs)
  | _, _ => none
def gInSeq : PV → PV → R := fun p q => match itOf q with
  | .ok l => match inP p l with
    | some b => .ok (.bl b)
    | none => .fail
  | _ => .fail
def gNotInSeq : PV → PV → R := fun p q => match itOf q with
  | .ok l => match inP p l with
    | some b => .ok (.bl (!b))
    | none => .fail
  | _ => .fail
theorem seq_of {K : PySem.W.Frag} {mg : Str → Option Value} {F H : Hp} {q : PV} {u : V} {l : List PV} (w : Same F H) (rq : Rp K mg F q u) (e : itOf q = .ok l) : ∃ a vs, u = .ref a ∧ (SqL K H a vs ∨ SqT K H a vs) ∧ Rps K mg F l vs := by
  cases q with
  | lst l' => cases e; obtain ⟨a, vs, rfl, h1, h2⟩ := rp_lst.mp rq; exact ⟨a, vs, rfl, .inl (sql_mono w h1), h2⟩
  | tup l' => cases e; obtain ⟨a, vs, rfl, h1, h2⟩ := rp_tup.mp rq; exact ⟨a, vs, rfl, .inr (sqt_mono w h1), h2⟩
  | non => cases e
  | bl _ => cases e
  | int _ => cases e
  | str _ => cases e
  | ins _ => cases e
  | exn _ _ => cases e
  | dct _ _ => cases e
theorem inP_some {p : PV} {l : List PV} {b : Bool} (h : inP p l = some b) : ∃ v vs, flV p = some v ∧ flVs l = some vs ∧ b = inV v vs := by
  unfold inP at h
  split at h
  · rename_i v vs h1 h2
    cases h
    exact ⟨v, vs, h1, h2, rfl⟩
  · cases h
theorem opG_in {X : Cx} : OpG X (rIn X.K false) gInSeq := by
  intro W F H Q p q v u w rp rq h
  unfold gInSeq at h
  split at h
  · rename_i l e
    split at h
    · rename_i b e2
      obtain ⟨v', vs', h1, h2, rfl⟩ := inP_some e2
      obtain ⟨a, vs, rfl, h3, h4⟩ := seq_of w rq e
      obtain ⟨rfl, h5⟩ := flVs_of h4 h2
      rw [flV_of rp h1]
      exact ⟨a, vs, rfl, h3, flV_flat h1, h5, h F H _ (Ext.refl w) (rp_bl.mpr rfl)⟩
    · exact h.elim
  · exact h.elim
theorem opG_notin {X : Cx} : OpG X (rIn X.K true) gNotInSeq := by
  intro W F H Q p q v u w rp rq h
  unfold gNotInSeq at h
  split at h
  · rename_i l e
    split at h
    · rename_i b e2
      obtain ⟨v', vs', h1, h2, rfl⟩ := inP_some e2
      obtain ⟨a, vs, rfl, h3, h4⟩ := seq_of w rq e
      obtain ⟨rfl, h5⟩ := flVs_of h4 h2
      rw [flV_of rp h1]
      exact ⟨a, vs, rfl, h3, flV_flat h1, h5, h F H _ (Ext.refl w) (rp_bl.mpr rfl)⟩
    · exact h.elim
  · exact h.elim
def gInStr : PV → PV → R := fun p q => match p, q with
  | .str x, .str z => if x.length = 1 then .ok (.bl (decide (x.cps.toList.headD 0 ∈ z.cps.toList))) else .fail
  | _, _ => .fail
def gNotInStr : PV → PV → R := fun p q => match p, q with
  | .str x, .str z => if x.length = 1 then .ok (.bl (!decide (x.cps.toList.headD 0 ∈ z.cps.toList))) else .fail
  | _, _ => .fail
theorem one_sign {x : Str} (h : x.length = 1) : x = ⟨#[x.cps.toList.headD 0]⟩ := by
  obtain ⟨⟨l⟩⟩ := x
  have h' : l.length = 1 := h
  match l, h' with
  | [c], _ => rfl
theorem opG_inStr {X : Cx} : OpG X (fun x y H Q => ∃ (c : Nat) (z : Str), x = .str ⟨#[c]⟩ ∧ y = .str z ∧ Q (.bl (decide (c ∈ z.cps.toList))) H) gInStr := by
  intro W F H Q p q v u w rp rq h
  unfold gInStr at h
  split at h
  · rename_i x z
    split at h
    · rename_i hl
      exact ⟨x.cps.toList.headD 0, z, by rw [rp_str.mp rp, ← one_sign hl], rp_str.mp rq, h F H _ (Ext.refl w) (rp_bl.mpr rfl)⟩
    · exact h.elim
  · exact h.elim
theorem opG_notInStr {X : Cx} : OpG X (fun x y H Q => ∃ (c : Nat) (z : Str), x = .str ⟨#[c]⟩ ∧ y = .str z ∧ Q (.bl (!decide (c ∈ z.cps.toList))) H) gNotInStr := by
  intro W F H Q p q v u w rp rq h
  unfold gNotInStr at h
  split at h
  · rename_i x z
    split at h
    · rename_i hl
      exact ⟨x.cps.toList.headD 0, z, by rw [rp_str.mp rp, ← one_sign hl], rp_str.mp rq, h F H _ (Ext.refl w) (rp_bl.mpr rfl)⟩
    · exact h.elim
  · exact h.elim
section
variable {X : Cx} {G : Hp × Hp} {W : WX} {a b : Expr} {fa fb : Lo → R} {pos : Pos}
theorem se_inSeq (ha : PE X a (tE X G W fa)) (hb : PE X b (tE X G W fb)) (hm : behindInMarks .In b = false := by rfl) : PE X (.Compare a [.In] [b] pos) (tE X G W (e2 gInSeq fa fb)) := se_cmp op_in_seq opG_in ha hb hm
theorem se_notinSeq (ha : PE X a (tE X G W fa)) (hb : PE X b (tE X G W fb)) (hm : behindInMarks .NotIn b = false := by rfl) : PE X (.Compare a [.NotIn] [b] pos) (tE X G W (e2 gNotInSeq fa fb)) := se_cmp op_notIn_seq opG_notin ha hb hm
theorem st_inSeq (ha : PE X a (tE X G W fa)) (hb : PE X b (tE X G W fb)) (hm : behindInMarks .In b = false := by rfl) : PT X (.Compare a [.In] [b] pos) (tT X G W (e2 gInSeq fa fb)) := st_cmp op_in_seq opG_in ha hb hm
theorem st_notinSeq (ha : PE X a (tE X G W fa)) (hb : PE X b (tE X G W fb)) (hm : behindInMarks .NotIn b = false := by rfl) : PT X (.Compare a [.NotIn] [b] pos) (tT X G W (e2 gNotInSeq fa fb)) := st_cmp op_notIn_seq opG_notin ha hb hm
theorem se_inStr (ha : PE X a (tE X G W fa)) (hb : PE X b (tE X G W fb)) (hm : behindInMarks .In b = false := by rfl) : PE X (.Compare a [.In] [b] pos) (tE X G W (e2 gInStr fa fb)) := se_cmp op_in_sign opG_inStr ha hb hm
theorem se_notinStr (ha : PE X a (tE X G W fa)) (hb : PE X b (tE X G W fb)) (hm : behindInMarks .NotIn b = false := by rfl) : PE X (.Compare a [.NotIn] [b] pos) (tE X G W (e2 gNotInStr fa fb)) := se_cmp op_notIn_sign opG_notInStr ha hb hm
theorem st_inStr (ha : PE X a (tE X G W fa)) (hb : PE X b (tE X G W fb)) (hm : behindInMarks .In b = false := by rfl) : PT X (.Compare a [.In] [b] pos) (tT X G W (e2 gInStr fa fb)) := st_cmp op_in_sign opG_inStr ha hb hm
theorem st_notinStr (ha : PE X a (tE X G W fa)) (hb : PE X b (tE X G W fb)) (hm : behindInMarks .NotIn b = false := by rfl) : PT X (.Compare a [.NotIn] [b] pos) (tT X G W (e2 gNotInStr fa fb)) := st_cmp op_notIn_sign opG_notInStr ha hb hm
end
/-! ### lists put together -/
def rCatS (K : PySem.W.Frag) : R2 := fun x y H Q => ∃ a b xs ys, x = .ref a ∧ y = .ref b ∧ SqL K H a xs ∧ SqL K H b ys ∧ xs.length + ys.length ≤ sizeLine ∧ ∀ p, H p = none → Q (.ref p) (upd H p (.lst (xs ++ ys)))
theorem op_catS {X : Cx} : OpR X (binaryOp .Add) (rCatS X.K) := by
  intro pins s σ H x y v u Q I rx ry hh
  obtain ⟨a, b, xs, ys, e1, e2, s1, s2, hz, q⟩ := hh
  subst e1 e2
  cases rx
  cases ry
  obtain ⟨us, r1, ⟨⟨c1, d1, dt1, sl1⟩, n1, g1, k1, _, t1⟩, z1⟩ := I.list s1
  obtain ⟨ws, r2, ⟨⟨c2, d2, dt2, sl2⟩, n2, g2, k2, _, t2⟩, z2⟩ := I.list s2
  simp only at k1 t1 k2 t2
  subst k1 t1 k2 t2
  have l1 := r1.length
  have l2 := r2.length
  refine concat_meets ⟨_, g1, rfl⟩ ⟨_, g2, rfl⟩ noFill_list_add seq_list_add PySem.F.slot_list_add PySem.F.entry_list_add (PySem.F.args_list_add_2 _ _) (list_addW a b us.toArray ws.toArray n1 n2 d1 d2 sl1 sl2 (by rw [List.size_toArray, List.size_toArray]; omega)) ⟨g1, g2, ?_⟩
  have ea : us.toArray ++ ws.toArray = (us ++ ws).toArray := by simp
  rw [ea]
  exact ⟨.ref _, _, I.lnew (t' := s.toks) (r1.append r2) (by rw [List.length_append]; exact hz), rfl, q _ I.fresh⟩
def gCat : PV → PV → R := fun p q => match p, q with
  | .lst l, .lst m => if l.length + m.length ≤ 100000 then .ok (.lst (l ++ m)) else .fail
  | _, _ => .fail
theorem opG_cat {X : Cx} : OpG X (rCatS X.K) gCat := by
  intro W F H Q p q v u w rp rq h
  unfold gCat at h
  split at h
  · rename_i l m
    split at h
    · rename_i hl
      obtain ⟨a, vs, rfl, h1, h2⟩ := rp_lst.mp rp
      obtain ⟨b, us, rfl, h3, h4⟩ := rp_lst.mp rq
      refine ⟨a, b, vs, us, rfl, rfl, sql_mono w h1, sql_mono w h3, by rw [h2.len, h4.len]; exact Nat.le_trans hl (by decide), fun c hc => ?_⟩
      have ex : Ext F H (upd F c (.lst (vs ++ us))) (upd H c (.lst (vs ++ us))) := Ext.new w hc
      exact h _ _ _ ex (rp_lst.mpr ⟨c, _, rfl, .inl (.inl upd_same), (h2.app h4).mono ex.f⟩)
    · exact h.elim
  · exact h.elim
section
variable {X : Cx} {G : Hp × Hp} {W : WX} {a b : Expr} {fa fb : Lo → R} {pos : Pos}
theorem se_cat (ha : PE X a (tE X G W fa)) (hb : PE X b (tE X G W fb)) : PE X (.BinOp a .Add b pos) (tE X G W (e2 gCat fa fb)) := se_op op_catS opG_cat ha hb
end
/-! ### slices of lists and texts -/
def cutP (l : List PV) (lo hi : Option Int) : List PV := (l.drop (HT.sIx l.length 0 lo)).take (HT.sIx l.length l.length hi - HT.sIx l.length 0 lo)
def gSlL (p : PV) (lo hi : Option Int) : R := match p with
  | .lst l => .ok (.lst (cutP l lo hi))
  | _ => .fail
def gSlS (p : PV) (lo hi : Option Int) : R := match p with
  | .str x => if x.length ≤ 100000 then .ok (.str (cutS x lo hi)) else .fail
  | _ => .fail
theorem rps_cut {K : PySem.W.Frag} {mg : Str → Option Value} {F : Hp} {l : List PV} {vs : List V} {lo hi : Option Int} (h : Rps K mg F l vs) : Rps K mg F (cutP l lo hi) (cutV vs lo hi) := by
  unfold cutP cutV
  rw [h.len]
  exact (h.drop _).take _
def bindI (r : R) (f : Int → R) : R := r.bind fun p => match p with
  | .int i => f i
  | _ => .fail
def eSl (g : PV → Option Int → Option Int → R) (fa : Lo → R) : Lo → R := fun env => (fa env).bind fun p => g p none none
def eSlN (g : PV → Option Int → Option Int → R) (fa fh : Lo → R) : Lo → R := fun env => (fa env).bind fun p => bindI (fh env) fun j => g p none (some j)
def eSlS (g : PV → Option Int → Option Int → R) (fa fl : Lo → R) : Lo → R := fun env => (fa env).bind fun p => bindI (fl env) fun i => g p (some i) none
def eSlB (g : PV → Option Int → Option Int → R) (fa fl fh : Lo → R) : Lo → R := fun env => (fa env).bind fun p => bindI (fl env) fun i => bindI (fh env) fun j => g p (some i) (some j)
/-- g says what the slice r gives -/
def SlG (X : Cx) (r : V → Option Int → Option Int → Hp → VK → Prop) (g : PV → Option Int → Option Int → R) : Prop := ∀ (W : Value → Option Addr → Hp → Prop) (F H : Hp) (Q : VK) (p : PV) (v : V) (lo hi : Option Int), Same F H → Rp X.K X.mg F p v → PostR X.K X.mg W F H Q (g p lo hi) → r v lo hi H Q
theorem slG_L {X : Cx} : SlG X (rSlL X.K) gSlL := by
  intro W F H Q p v lo hi w rp h
  unfold gSlL at h
  split at h
  · obtain ⟨a, vs, rfl, h1, h2⟩ := rp_lst.mp rp
    refine ⟨a, vs, rfl, sql_mono w h1, fun c hc => ?_⟩
    have ex : Ext F H (upd F c (.lst (cutV vs lo hi))) (upd H c (.lst (cutV vs lo hi))) := Ext.new w hc
    exact h _ _ _ ex (rp_lst.mpr ⟨c, _, rfl, .inl (.inl upd_same), (rps_cut h2).mono ex.f⟩)
  · exact h.elim
theorem slG_S {X : Cx} : SlG X rSlS gSlS := by
  intro W F H Q p v lo hi w rp h
  unfold gSlS at h
  split at h
  · rename_i x
    split at h
    · rename_i hl
      exact ⟨x, rp_str.mp rp, Nat.le_trans hl (by decide), h F H _ (Ext.refl w) (rp_str.mpr rfl)⟩
    · exact h.elim
  · exact h.elim
section
variable {X : Cx} {G : Hp × Hp} {W : WX} {e el eh : Expr} {fa fl fh : Lo → R} {pos p2 : Pos} {r : V → Option Int → Option Int → Hp → VK → Prop} {g : PV → Option Int → Option Int → R}
theorem tI_bind {f : Int → R} {σ : L2.St} {F H : Hp} {Q : VK} {P : Option Int → Hp → Prop} {env : Lo} (b : BR X.K X.mg G F H σ env) (h : PostR X.K X.mg (fun c d H => W c d σ H) F H Q (bindI (fl env) f))
    (hP : ∀ i F' H', Ext F H F' H' → BR X.K X.mg G F' H' σ env → PostR X.K X.mg (fun c d H => W c d σ H) F' H' Q (f i) → P (some i) H') : tPart (tE X G W fl) σ H P := by
  refine tE_bind b h fun p v F1 H1 _ e1 b1 rp h1 => ?_
  split at h1
  · exact ⟨_, rp_int.mp rp, hP _ F1 H1 e1 b1 h1⟩
  · exact h1.elim
theorem se_sl (hr : SlR X r) (hg : SlG X r g) (he : PE X e (tE X G W fa)) : PE X (.Subscript e (.Slice none none none p2) pos) (tE X G W (eSl g fa)) := by
  refine PE_mono (pe_slice hr he po_none po_none) fun σ H Q h => ?_
  obtain ⟨F, env, br, h⟩ := h
  exact tE_bind br h fun p v F1 H1 _ e1 b1 rp h1 => hg _ F1 H1 Q p v none none b1.w rp h1
theorem se_slN (hr : SlR X r) (hg : SlG X r g) (he : PE X e (tE X G W fa)) (hh : PE X eh (tE X G W fh)) : PE X (.Subscript e (.Slice none (some eh) none p2) pos) (tE X G W (eSlN g fa fh)) := by
  refine PE_mono (pe_slice hr he po_none (po_some hh)) fun σ H Q h => ?_
  obtain ⟨F, env, br, h⟩ := h
  refine tE_bind br h fun p v F1 H1 _ e1 b1 rp h1 => ?_
  show tPart (tE X G W fh) σ H1 fun u H3 => r v none u H3 Q
  refine tI_bind b1 h1 fun j F2 H2 e2 b2 h2 => ?_
  exact hg _ F2 H2 Q p v none (some j) b2.w (rp.mono e2.f) h2
theorem se_slS (hr : SlR X r) (hg : SlG X r g) (he : PE X e (tE X G W fa)) (hl : PE X el (tE X G W fl)) : PE X (.Subscript e (.Slice (some el) none none p2) pos) (tE X G W (eSlS g fa fl)) := by
  refine PE_mono (pe_slice hr he (po_some hl) po_none) fun σ H Q h => ?_
  obtain ⟨F, env, br, h⟩ := h
  refine tE_bind br h fun p v F1 H1 _ e1 b1 rp h1 => ?_
  refine tI_bind b1 h1 fun i F2 H2 e2 b2 h2 => ?_
  exact hg _ F2 H2 Q p v (some i) none b2.w (rp.mono e2.f) h2
theorem se_slB (hr : SlR X r) (hg : SlG X r g) (he : PE X e (tE X G W fa)) (hl : PE X el (tE X G W fl)) (hh : PE X eh (tE X G W fh)) : PE X (.Subscript e (.Slice (some el) (some eh) none p2) pos) (tE X G W (eSlB g fa fl fh)) := by
  refine PE_mono (pe_slice hr he (po_some hl) (po_some hh)) fun σ H Q h => ?_
  obtain ⟨F, env, br, h⟩ := h
  refine tE_bind br h fun p v F1 H1 _ e1 b1 rp h1 => ?_
  refine tI_bind b1 h1 fun i F2 H2 e2 b2 h2 => ?_
  refine tI_bind b2 h2 fun j F3 H3 e3 b3 h3 => ?_
  exact hg _ F3 H3 Q p v (some i) (some j) b3.w (rp.mono (e2.trans e3).f) h3
end
/-! ### C() of a class without an __init__ of its own, and its methods -/
theorem new0_run {X : Cx} {pins : List (Addr × Obj)} {σ : L2.St} {H : Hp} {s : Shared} {C : Addr} {Q : VK} (I : Inv X pins σ H s) (hm : PySem.W.makesIn X.K C = true) (hi : PySem.W.findIn X.K (.ref C) "__init__" = some (some (.builtin "object.__init__")))
    (q : ∀ x dx, H x = none → H dx = none → dx ≠ x → Q (.ref x) (upd (upd H dx (.own x)) x (.ins C dx []))) : wpAny (model X.prog X.w) X.A (call (.ref C) []) (EP X pins σ Q) X.xe s := by
  have nx := I.hok.fresh (Nat.le_succ s.heap.objs.size)
  have nd := I.hok.fresh (Nat.le_refl s.heap.objs.size)
  have fin : EP X pins σ Q (.ref (s.heap.objs.size + 1)) { s with heap := (s.heap.push PySem.W.emptyDict).push (PySem.W.instObj C s.heap.objs.size) } :=
    ⟨.ref (s.heap.objs.size + 1), _, Inv.made (C := C) I, rfl, q _ _ nx nd (Nat.ne_of_lt (Nat.lt_succ_self _))⟩
  have kin := I.kIn
  clear I q nx nd
  obtain ⟨hp, gs, dr, tk, os⟩ := s
  have Y := PySem.W.makes_of (M := model X.prog X.w) kin hm
  have gx : ((hp.push PySem.W.emptyDict).push (PySem.W.instObj C hp.objs.size)).get? (hp.objs.size + 1) = some (PySem.W.instObj C hp.objs.size) := by heap_get
  have ty : PySem.W.Looks (model X.prog X.w) ((hp.push PySem.W.emptyDict).push (PySem.W.instObj C hp.objs.size)) (typeOf (.ref (hp.objs.size + 1))) (.ref C) := (PySem.W.Looks.ld gx).andThen .now
  have io : PySem.W.Looks (model X.prog X.w) ((hp.push PySem.W.emptyDict).push (PySem.W.instObj C hp.objs.size)) (isInstance (.ref (hp.objs.size + 1)) (.type "object")) true := ty.andThen (Y.top.keeps fun b o e => Heap.get?_push_of_some (PySem.W.instObj C hp.objs.size) (Heap.get?_push_of_some PySem.W.emptyDict e))
  refine wpAny_call (make_map0 kin hm hi (fun z => PySem.W.Looks.of_pure (PySem.W.oi_bind z)) ?_)
  refine codeAny_call_builtin PySem.W.oi_plain PySem.W.entry_oi (@PySem.W.check_slot (model X.prog X.w) _ _ _ "object.__init__" "object" "__init__" (.ref (hp.objs.size + 1)) [] [] _ PySem.W.oi_kind PySem.W.oi_split io (PySem.W.oi_args (.ref (hp.objs.size + 1))) ?_)
  rw [PySem.W.oi_run]
  exact wpAny_pure (And.intro rfl fin)
/-- what is asked of such a class -/
structure Mk0 (K : PySem.W.Frag) (C : Addr) : Prop where
  makes : PySem.W.makesIn K C = true
  init : PySem.W.findIn K (.ref C) "__init__" = some (some (.builtin "object.__init__"))
  kp : PySem.W.keepIn K (.ref C) = true
section
variable {X : Cx} {G : Hp × Hp} {W : WX} {x : Str} {C : Addr} {p pos : Pos}
theorem se_new0 (M : Mk0 X.K C) (hm : X.mg x = some (.ref C)) (hg : Gl X x := by rfl) (hdb : (x == ("__debug__" : Str)) = false := by decide) : PE X (.Call (.Name x p) [] [] pos) (tE X G W (eC (.ins x))) := by
  refine ⟨fun pins s σ H Q I h => ?_⟩
  obtain ⟨F, env, br, h⟩ := h
  refine wpAny_Call_Name_kw (ld_glob I hg hm ?_ hdb)
  refine PySem.W.callWith_K0 I.kIn M.kp (new0_run I M.makes M.init fun y dx hy hd ne => ?_)
  have n1 : (upd H dx (.own y)) y = none := by rw [upd_ne (Ne.symm ne)]; exact hy
  have w1 : Same F (upd H dx (.own y)) := br.w.trans (same_upd hd)
  have ex : Ext F (upd H dx (.own y)) (upd F y (.ins C dx [])) (upd (upd H dx (.own y)) y (.ins C dx [])) := Ext.new w1 n1
  refine h (upd F y (.ins C dx [])) _ (.ref y) ⟨ex.f, (same_upd hd).trans ex.h, ex.w, fun a e n => ex.sep a e ?_⟩ (rp_ins.mpr ⟨y, C, dx, rfl, upd_same, hm⟩)
  by_cases ha : a = dx
  · subst ha; rw [upd_same]; exact fun z => nomatch z
  · rw [upd_ne ha]; exact n
end
/-- the method m of the class x: the plain function sem takes the object first -/
def GoodM (P : Program) (w : World) (K : PySem.W.Frag) (mg : Str → Option Value) (x m : Str) (lvl np : Nat) (ps : List Str) (sem : List PV → R) : Prop :=
  ∃ (C f : Addr) (fd : FuncData), mg x = some (.ref C) ∧ Cls K C ∧ Meth K C m f ∧ (∀ base : Heap, FnOk P w K mg base (L2.CX P w) lvl f fd ps (spOf K mg np sem)) ∧ Binds K fd ps []
def lookC (c : Str) : List (Str × (List PV → R)) → Option (List PV → R)
  | [] => none
  | q :: r => if q.1 = c then some q.2 else lookC c r
/-- o.m(..): by the object's class -/
def eMeth (tbl : List (Str × (List PV → R))) (fo : Lo → R) (fl : Lo → RL) : Lo → R := fun env => (fo env).bind fun p => match p with
  | .ins c => match lookC c tbl with
    | some sem => (fl env).bind fun ps => sem (.ins c :: ps)
    | none => .fail
  | _ => .fail
theorem lookC_mem {c : Str} {sem : List PV → R} : ∀ {tbl : List (Str × (List PV → R))}, lookC c tbl = some sem → (c, sem) ∈ tbl
  | [], h => by cases h
  | q :: r, h => by
    simp only [lookC] at h
    split at h
    · rename_i e
      cases h
      rw [← e]
      exact List.mem_cons_self
    · exact List.mem_cons_of_mem _ (lookC_mem h)
section
variable {X : Cx} {G : Hp × Hp} {W : WX} {k lvl np : Nat} {ps : List Str} {m : Str} {apos pos : Pos} {o e : Expr} {es : List Expr} {fo : Lo → R} {fl : Lo → RL} {tbl : List (Str × (List PV → R))}
/-- where the object's class may be one of several -/
theorem PE_by {t : TE} {ι : Type} {ts : ι → TE} (i0 : ι) {e : Expr} (h : ∀ i, PE X e (ts i)) (m : ∀ σ H Q, t σ H Q → ∃ i, ts i σ H Q) : PE X e t := ⟨fun pins s σ H Q I q => by
  obtain ⟨i, q⟩ := m σ H Q q
  exact (h i).run pins s σ H Q I q⟩
theorem se_meth {pl : Sem Bool} (he : PE X o (tE X G W fo)) (Gd : ∀ q ∈ tbl, GoodM X.prog X.w X.K X.mg q.1 m lvl np ps q.2) (hne : tbl ≠ []) (hr : Room k X.A) (tk : Takes X W) (hl : lvl ≤ k := by decide) (ha : PA X (e :: es) (tA X G W fl))
    (hnp : ∀ q ∈ tbl, ∀ qs : List PV, qs.length ≠ np → q.2 qs = .fail)
    (hst : starEach (e :: es) X.env = (false, eval e X.env) :: starEach es X.env := by rfl) (hpl : (backTo pos (starEach es X.env)).any (·.1) = false := by rfl)
    (ht : eval (.Call (.Attribute o m apos) (e :: es) [] pos) X.env = (do
      let ov ← eval o X.env
      standAt apos.atName
      let (f, first) ← holding [ov] (getMethod ov m pl)
      callWith pos f first (backTo pos (starEach (e :: es) X.env)) (backToKw pos (keywordEach [] X.env))) := by rfl) :
    PE X (.Call (.Attribute o m apos) (e :: es) [] pos) (tE X G W (eMeth tbl fo fl)) := by
  refine ⟨fun pins s σ H Q I h => ?_⟩
  obtain ⟨F, env, br, h⟩ := h
  refine PySem.W.methodCall_KW (pl := pl) (thn (he.run pins s σ H (fun v H1 => ∃ a C dx c sem F1, v = .ref a ∧ F1 a = some (.ins C dx []) ∧ X.mg c = some (.ref C) ∧ (c, sem) ∈ tbl ∧ BR X.K X.mg G F1 H1 σ env ∧ Ext F H F1 H1 ∧
    PostR X.K X.mg (fun c d H => W c d σ H) F1 H1 Q ((fl env).bind fun ps => sem (.ins c :: ps))) I ?_) fun u s1 hh => ?_) ht
  · refine tE_bind br h fun p v F1 H1 ep e1 b1 rp h1 => ?_
    clear ep
    split at h1
    · rename_i c
      split at h1
      · rename_i sem ec
        obtain ⟨a, C, dx, rfl, h2, h3⟩ := rp_ins.mp rp
        exact ⟨a, C, dx, c, sem, F1, rfl, h2, h3, lookC_mem ec, b1, e1, h1⟩
      · exact h1.elim
    · exact h1.elim
  · obtain ⟨v, H1, I1, rv, a, C, dx, c, sem, F1, ev, ea, em, hmem, b1, ex1, po⟩ := hh
    subst ev
    obtain rfl : u = Value.ref a := rv
    obtain ⟨C', f, fd, g, cl, mt, ok, bd⟩ := Gd _ hmem
    rw [em] at g
    cases g
    refine getmeth_ok I1 (b1.w _ _ ea) cl mt rfl ?_
    refine PySem.W.callWith_K (first := [.ref a]) (h₀ := X.base) I.ok.mod.kin mt.kp (thn (ha.run pos pins s1 σ H1 (fun vs H2 => spOf X.K X.mg np sem (.ref a :: vs) H2 Q (WE W σ)) I1 ?_) fun us s2 hh2 => ?_) hst hpl
    · refine tA_bind b1 po fun qs vs F2 H2 e2 b2 rp h2 => ?_
      refine ⟨F2, .ins c :: qs, b2.w, rps_cons (rp_ins.mpr ⟨a, C, dx, rfl, e2.f _ _ ea, em⟩) rp, ?_, h2⟩
      exact Decidable.byContradiction fun hn => by rw [show sem (.ins c :: qs) = .fail from hnp _ hmem _ hn] at h2; exact h2
    · obtain ⟨vs, H2, I2, r, q2⟩ := hh2
      refine ⟨I2.kIn, ?_⟩
      exact run_fnSD (us := .ref a :: us) (vs := .ref a :: vs) (dvs := []) (ds := []) (ok X.base) (hr.mono hl) bd .nil (passAt tk σ) I2 (.cons rfl r) (by rw [List.append_nil]; exact q2)
end

theorem all_nil {α : Type} {p : α → Prop} : ∀ q ∈ ([] : List α), p q := fun _ h => nomatch h
theorem all_cons {α : Type} {p : α → Prop} {a : α} {l : List α} (h : p a) (t : ∀ q ∈ l, p q) : ∀ q ∈ a :: l, p q := fun q hq => by
  rcases List.mem_cons.mp hq with e | hq
  · rw [e]; exact h
  · exact t q hq
theorem goodM_mk {P : Program} {w : World} {K : PySem.W.Frag} {mg : Str → Option Value} {x m n q : Str} {st : Stmt} {fd : FuncData} {N ps : List Str} {k np : Nat} {body : Lo → Fl} (Fn : FunD K n q (defArgs st) (defBody st) (defScope st) [] [] (He.ma K (He.ga K x) m) fd)
    (g : mg x = some (.ref (He.ga K x))) (cl : Cls K (He.ga K x)) (mt : Meth K (He.ga K x) m (He.ma K (He.ga K x) m)) (S : FnScope N ps (defScope st)) (hnp : np = ps.length)
    (hbd : ∀ (kV doc pm : Value) (an : Option Addr) (cdv ct : Value) (us : List Value), us.length = ps.length → bindArgs (PySem.W.fnOf n q (defArgs st) (defBody st) (defScope st) .none kV doc pm an cdv ct) ⟨us, []⟩ = pure (ps.zip us))
    (hb : ∀ (base : Heap) (cdv : Value) (A : Around) (outer : List Env) (s : Shared) (H : Hp) (E : XK) (G : Hp × Hp), Room k (A.deeper (envOfC q (defScope st) s.heap.objs.size (He.ma K (He.ga K x) m) cdv)) →
      PSs (cxOf (L2.CX P w) P w K mg base N q (defScope st) (He.ma K (He.ga K x) m) cdv A outer s H E) (defBody st) (tSt (cxOf (L2.CX P w) P w K mg base N q (defScope st) (He.ma K (He.ga K x) m) cdv A outer s H E) G (fun c d _ H => E c d H) body)) :
    GoodM P w K mg x m (k + 1) np ps (fnSem N.length np body) :=
  ⟨He.ga K x, He.ma K (He.ga K x) m, fd, g, cl, mt, fun base => fnD_ok Fn S hnp (hb base), Fn.bindsN hbd⟩
/-! ### the head's facts, and which classes are made without an __init__ -/
theorem chk0_ok {K : PySem.W.Frag} {x : Str} (h : chk0 K x = true) : Mk0 K (He.ga K x) := by
  obtain ⟨h1, h2⟩ := He.ba h
  obtain ⟨h3, h4⟩ := He.ba h2
  exact ⟨h1, He.eqO_ok h3, h4⟩
/-! what the head's facts have to say of such a class -/
theorem oex_cls {K : PySem.W.Frag} {C : Addr} (q : oexIn K C = true) : ∃ nm q N bs bm sn sub ab col dd k0 k1 k2 k3 k5, K.lookup C = some (excClassObj nm q C N bs bm true sn sub ab col dd k0 k1 k2 k3 k5 "ValueError.__new__") ∧ PySem.HandSPX.refsVE bm = true := by
  unfold oexIn at q
  split at q
  · rename_i dd cd sl ho
    split at q
    · rename_i C' bm k0 k1 k2 k3 n k5 hm hs
      simp only [Bool.and_eq_true, beq_iff_eq, Bool.not_eq_true'] at q
      obtain ⟨⟨⟨⟨rfl, rfl⟩, hdel⟩, hdct⟩, ht⟩ := q
      obtain ⟨nm, bs, mro, ns, qn, hd, sn, sub, ab, col, del⟩ := cd
      dsimp only at hm hdel hdct
      subst hm hdel hdct
      have hsl : sl = #[k0, k1, k2, k3, some (.builtin "ValueError.__new__"), k5] := by
        obtain ⟨l⟩ := sl
        simp only at hs
        rw [hs]
      subst hsl
      exact ⟨nm, qn, ns, bs, bm, sn, sub, ab, col, dd, k0, k1, k2, k3, k5, ho, ht⟩
    · cases q
  · cases q
theorem chkO_ok {K : PySem.W.Frag} {x f : Str} (h : chkO K x f = true) : OexC K (He.ga K x) ∧ PySem.W.findIn K (.ref (He.ga K x)) "__init__" = some (some (.ref (He.ma K (He.ga K x) "__init__"))) ∧ PySem.W.typeIn K (.ref (He.ma K (He.ga K x) "__init__")) = some (.type "function") ∧ PySem.W.findIn K (.ref (He.ga K x)) f = some none := by
  obtain ⟨h1, h⟩ := He.ba h
  obtain ⟨h2, h⟩ := He.ba h
  obtain ⟨h3, h⟩ := He.ba h
  obtain ⟨h4, h⟩ := He.ba h
  obtain ⟨h5, h⟩ := He.ba h
  obtain ⟨h6, h⟩ := He.ba h
  obtain ⟨h7, h8⟩ := He.ba h
  exact ⟨⟨oex_cls h1, of_decide_eq_true h2, of_decide_eq_true h3, of_decide_eq_true h4, h5⟩, of_decide_eq_true h6, of_decide_eq_true h7, of_decide_eq_true h8⟩
section
variable {fa : List He.Fa} {fn : List He.DefD} {ex : List Nx} {K : PySem.W.Frag}
theorem SaysN.nx (c : SaysN fa fn ex K) {q : Nx} (i : Nat) (h : ex[i]? = some q := by rfl) : chkN K q = true := List.all_eq_true.mp c.2 q (List.mem_of_getElem? h)
theorem SaysN.mk0 (c : SaysN fa fn ex K) {x : Str} (i : Nat) (h : ex[i]? = some (.mk0 x) := by rfl) : Mk0 K (He.ga K x) := chk0_ok (c.nx i h)
theorem SaysN.kix (c : SaysN fa fn ex K) {x y : Str} {b : Bool} (i : Nat) (h : ex[i]? = some (.kix x y b) := by rfl) : PySem.W.kitOne K (.ref (He.ga K x)) (.ref (He.ga K y)) = some b := of_decide_eq_true (c.nx i h)
theorem SaysN.kib (c : SaysN fa fn ex K) {x : Str} {t : String} {b : Bool} (i : Nat) (h : ex[i]? = some (.kib x t b) := by rfl) : PySem.W.kitOne K (.ref (He.ga K x)) (.type t) = some b := of_decide_eq_true (c.nx i h)
theorem SaysN.gen (c : SaysN fa fn ex K) {f : PySem.W.Frag → Bool} (i : Nat) (h : ex[i]? = some (.gen f) := by rfl) : f K = true := c.nx i h
theorem SaysN.exo (c : SaysN fa fn ex K) {x : Str} (i : Nat) (h : ex[i]? = some (.exo x) := by rfl) : ExcC K (He.ga K x) := chkX_ok (c.nx i h)
end
end Nf

namespace Nf
open PySem PySem.Spec PyProof.Rows L2
/-! ### f(e, .., k = v): all parameters written, the last ones by their names -/
def aApp (fl fk : Lo → RL) : Lo → RL := fun env => (fl env).bindL fun ps => (fk env).bindL fun qs => .ok (ps ++ qs)
def ALen (fl : Lo → RL) (n : Nat) : Prop := ∀ env qs, fl env = .ok qs → qs.length = n
theorem alen_nil : ALen aN 0 := fun _ _ h => by cases h; rfl
theorem alen_cons {f : Lo → R} {fl : Lo → RL} {n : Nat} (h : ALen fl n) : ALen (aC f fl) (n + 1) := fun env qs e => by
  unfold aC at e
  cases e1 : f env with
  | ok p =>
    rw [e1] at e
    cases e2 : fl env with
    | ok ps =>
      simp only [R.bindL_ok] at e
      rw [e2] at e
      simp only [RL.bindL_ok] at e
      cases e
      rw [List.length_cons, h env ps e2]
    | exc x => simp only [R.bindL_ok] at e; rw [e2] at e; cases e
    | fail => simp only [R.bindL_ok] at e; rw [e2] at e; cases e
  | exc x => rw [e1] at e; cases e
  | fail => rw [e1] at e; cases e
theorem PK_mono {X : Cx} {kws : List Keyword} {t t' : TA} (h : PK X kws t) (m : ∀ σ H Q, t' σ H Q → t σ H Q) : PK X kws t' := ⟨fun pos pins s σ H Q I q => h.run pos pins s σ H Q I (m σ H Q q)⟩
section
variable {X : Cx} {G : Hp × Hp} {W : WX} {e : Expr} {es : List Expr} {kws : List Keyword} {fa : Lo → R} {fl fk : Lo → RL} {nm : Option Str} {kpos p pos : Pos}
theorem sk_nil : PK X [] (tA X G W aN) := PK_mono pk_nil fun σ H Q h => by
  obtain ⟨F, env, br, h⟩ := h
  exact h F H [] (Ext.refl br.w) rps_nil
theorem sk_cons (ha : PE X e (tE X G W fa)) (hr : PK X kws (tA X G W fl)) : PK X (⟨nm, e, kpos⟩ :: kws) (tA X G W (aC fa fl)) := by
  refine PK_mono (pk_cons ha hr) fun σ H Q h => ?_
  obtain ⟨F, env, br, h⟩ := h
  refine ⟨F, env, br, ?_⟩
  unfold aC at h
  cases e1 : fa env with
  | fail => rw [e1] at h; exact h
  | exc x => rw [e1] at h; exact h
  | ok p =>
    rw [e1] at h
    intro F1 H1 v x1 rv
    refine ⟨F1, env, br.mono x1, ?_⟩
    cases e2 : fl env with
    | fail => simp only [R.bindL_ok] at h; rw [e2] at h; exact h.elim
    | exc y =>
      simp only [R.bindL_ok] at h
      rw [e2] at h
      exact fun F2 H2 c d x2 rx => h F2 H2 c d (x1.trans x2) rx
    | ok ps =>
      simp only [R.bindL_ok] at h
      rw [e2] at h
      exact fun F2 H2 vs x2 rvs => h F2 H2 (v :: vs) (x1.trans x2) (rps_cons (rv.mono x2.f) rvs)
end
section
variable {X : Cx} {k n : Nat} {f : Addr} {fd : FuncData} {ps ks : List Str} {sp : Sp} {E : L2.St → XK} {x : Str} {p pos : Pos} {e : Expr} {es : List Expr} {kws : List Keyword} {t tk : TA} {g : List Value → List Value → List Value} {gV : List V → List V → List V}
theorem run_fnNS {pins : List (Addr × Obj)} {σ : L2.St} {H : Hp} {s : Shared} {Q : VK} {us ws : List Value} {vs zs : List V} (F : FnOk X.prog X.w X.K X.mg X.base (L2.CX X.prog X.w) k f fd ps sp) (hr : Room k X.A) (hb : KBn X.K fd ps n ks g gV) (hx : PassesAt (L2.CX X.prog X.w) X σ (E σ))
    (I : Inv X pins σ H s) (r : Vals vs us) (rz : Vals zs ws) (l1 : vs.length = n) (l2 : zs.length = ks.length) (h : sp (gV vs zs) H Q (E σ)) : wpAny (model X.prog X.w) X.A (call (.ref f) us (ks.zip ws)) (EP X pins σ Q) X.xe s := by
  have r2 := hb.rel r rz
  refine wpAny_call (codeAny_mono (F.run X.A X.stack s H ⟨us, ks.zip ws⟩ (g us ws) (gV vs zs) Q (E σ) hr I.env0 (hb.to s us ws I.kIn (r.length.symm.trans l1) (rz.length.symm.trans l2)) r2 h) fun r s' hq => ?_)
  cases r with
  | error e => exact hx pins H s e s' I hq
  | ok fl =>
    cases fl with
    | ret u => exact I.after hq
    | next => exact False.elim hq
    | brk => exact False.elim hq
    | cont => exact False.elim hq
def tCallNS (n m : Nat) (sp : Sp) (gV : List V → List V → List V) (E : L2.St → XK) (t tk : TA) : TE := fun σ H Q => t σ H fun vs H1 => tk σ H1 fun zs H2 => vs.length = n ∧ zs.length = m ∧ sp (gV vs zs) H2 Q (E σ)
theorem pe_callNS (F : FnOk X.prog X.w X.K X.mg X.base (L2.CX X.prog X.w) k f fd ps sp) (hr : Room k X.A) (hg : Gl X x) (hm : X.mg x = some (.ref f)) (hk : PySem.W.keepIn X.K (.ref f) = true) (hb : KBn X.K fd ps n ks g gV) (hx : ∀ σ, PassesAt (L2.CX X.prog X.w) X σ (E σ))
    (ha : PA X (e :: es) t) (hkw : PK X kws tk) (hall : (backToKw pos (keywordEach kws X.env)).all (·.1.isSome) = true) (hks : (backToKw pos (keywordEach kws X.env)).filterMap (·.1) = ks)
    (hdb : (x == ("__debug__" : Str)) = false) (he : starEach (e :: es) X.env = (false, eval e X.env) :: starEach es X.env)
    (hpl : ((backTo pos (starEach (e :: es) X.env)).any (·.1) || (backToKw pos (keywordEach kws X.env)).any (·.1.isNone)) = false) :
    PE X (.Call (.Name x p) (e :: es) kws pos) (tCallNS n ks.length sp gV E t tk) := by
  refine ⟨fun pins s σ H Q I h => ?_⟩
  refine wpAny_Call_Name_kw (ld_glob I hg hm ?_ hdb)
  refine PySem.W.callWith_KW (h₀ := X.base) I.ok.mod.kin hk hall (thn (ha.run pos pins s σ H _ I h) fun us s1 ⟨vs, H1, I1, r, q⟩ => ?_) hpl he
  refine thn (hkw.run pos pins s1 σ H1 _ I1 q) fun ws s2 ⟨zs, H2, I2, rz, l1, l2, q2⟩ => ⟨I2.kIn, ?_⟩
  rw [hks]
  exact run_fnNS F hr hb (hx σ) I2 r rz l1 l2 q2
end
/-- the def x of the module keeps sem where its parameters ks are named -/
def GoodK (P : Program) (w : World) (K : PySem.W.Frag) (mg : Str → Option Value) (x : Str) (lvl np n : Nat) (ks : List Str) (sem : List PV → R) : Prop :=
  ∃ (f : Addr) (fd : FuncData) (ps : List Str), mg x = some (.ref f) ∧ PySem.W.keepIn K (.ref f) = true ∧ (∀ base : Heap, FnOk P w K mg base (L2.CX P w) lvl f fd ps (spOf K mg np sem)) ∧ KBn K fd ps n ks (fun us ws => us ++ ws) (fun vs zs => vs ++ zs)
section
variable {P : Program} {w : World} {K : PySem.W.Frag} {mg : Str → Option Value}
theorem vals_app : ∀ {vs ds : List V} {us ws : List Value}, Vals vs us → Vals ds ws → Vals (vs ++ ds) (us ++ ws)
  | _, _, _, _, .nil, h => h
  | _, _, _, _, .cons r t, h => .cons r (vals_app t h)
theorem good_mkK {x : Str} {st : Stmt} {dvs : List V} {f : Addr} {fd : FuncData} {N ps : List Str} {k np : Nat} {body : Lo → Fl} (n : Nat) (ks : List Str) (Fn : FnQ K x st dvs f fd) (g : mg x = some (.ref f)) (S : FnScope N ps (defScope st)) (hnp : np = ps.length) (hd : dvs ≠ [])
    (hb1 : ∀ (T : Addr) (kV doc pm : Value) (an : Option Addr) (cdv ct : Value) (us its ws : List Value), us.length = n → its.length = dvs.length → ws.length = ks.length →
      ∃ k, bindArgs (PySem.W.fnOf x x (defArgs st) (defBody st) (defScope st) (.ref T) kV doc pm an cdv ct) ⟨us, ks.zip ws⟩ = seqItems? (.ref T) >>= k ∧ k (some its.toArray) = pure (ps.zip (us ++ ws)))
    (hb : ∀ (base : Heap) (cdv : Value) (A : Around) (outer : List Env) (s : Shared) (H : Hp) (E : XK) (G : Hp × Hp), Room k (A.deeper (envOfC x (defScope st) s.heap.objs.size f cdv)) →
      PSs (cxOf (L2.CX P w) P w K mg base N x (defScope st) f cdv A outer s H E) (defBody st) (tSt (cxOf (L2.CX P w) P w K mg base N x (defScope st) f cdv A outer s H E) G (fun c d _ H => E c d H) body)) :
    GoodK P w K mg x (k + 1) np n ks (fnSem N.length np body) := by
  obtain ⟨its, kb⟩ := Fn.kbindsD n ks (fun us _ ws => us ++ ws) hd (fun a _ b => vals_app a b) hb1
  exact ⟨f, fd, ps, g, Fn.kp, fun base => fnD_ok Fn S hnp (hb base), kb⟩
end
section
variable {X : Cx} {G : Hp × Hp} {W : WX} {k lvl np n : Nat} {ks : List Str} {x : Str} {p pos : Pos} {e : Expr} {es : List Expr} {kws : List Keyword} {fl fk : Lo → RL} {sem : List PV → R}
theorem se_fK (Gd : GoodK X.prog X.w X.K X.mg x lvl np n ks sem) (hr : Room k X.A) (tk : Takes X W) (ha : PA X (e :: es) (tA X G W fl)) (hkw : PK X kws (tA X G W fk)) (l1 : ALen fl n) (l2 : ALen fk ks.length) (hl : lvl ≤ k := by decide) (hg : Gl X x := by rfl)
    (hall : (backToKw pos (keywordEach kws X.env)).all (·.1.isSome) = true := by rfl) (hks : (backToKw pos (keywordEach kws X.env)).filterMap (·.1) = ks := by rfl) (hdb : (x == ("__debug__" : Str)) = false := by decide) (he : starEach (e :: es) X.env = (false, eval e X.env) :: starEach es X.env := by rfl)
    (hpl : ((backTo pos (starEach (e :: es) X.env)).any (·.1) || (backToKw pos (keywordEach kws X.env)).any (·.1.isNone)) = false := by rfl)
    (hnp : ∀ qs, qs.length ≠ np → sem qs = .fail := by intro qs h; exact if_neg h) :
    PE X (.Call (.Name x p) (e :: es) kws pos) (tE X G W (eCall sem [] (aApp fl fk))) := by
  obtain ⟨f, fd, ps, g, kp, ok, kb⟩ := Gd
  refine PE_mono (pe_callNS (ok X.base) (hr.mono hl) hg g kp kb (fun σ => passAt tk σ) ha hkw hall hks hdb he hpl) fun σ H Q h => ?_
  obtain ⟨F, env, br, h⟩ := h
  refine ⟨F, env, br, ?_⟩
  unfold eCall aApp at h
  cases e1 : fl env with
  | fail => rw [e1] at h; exact h.elim
  | exc y => rw [e1] at h; exact h
  | ok qs =>
    rw [e1] at h
    intro F1 H1 vs x1 rvs
    refine ⟨F1, env, br.mono x1, ?_⟩
    simp only [RL.bindL_ok] at h
    cases e2 : fk env with
    | fail => rw [e2] at h; exact h.elim
    | exc y =>
      rw [e2] at h
      exact fun F2 H2 c d x2 rx => h F2 H2 c d (x1.trans x2) rx
    | ok rs =>
      rw [e2] at h
      simp only [RL.bindL_ok, RL.bind_ok, List.append_nil] at h
      intro F2 H2 zs x2 rzs
      refine ⟨by rw [rvs.len, l1 env qs e1], by rw [rzs.len, l2 env rs e2], F2, qs ++ rs, (x1.trans x2).w, (rvs.mono x2.f).app rzs, ?_, h.move (x1.trans x2)⟩
      exact Decidable.byContradiction fun hn => by rw [hnp _ hn] at h; exact h
end
end Nf

namespace Nf
open PySem PySem.Spec PyProof.Rows L2
/-- said so that simp takes no row for a mere unfolding: the kernel then never runs an operator -/
theorem nrfl {α : Sort _} {a : α} : a = a := Eq.trans (Eq.refl a) (Eq.refl a)
/-! ### running the plain functions: every row takes a strict form, applied to its locals -/
def R.b2 (g : PV → PV → R) (r s : R) : R := r.bind fun p => s.bind fun q => g p q
def R.b1 (g : PV → R) (r : R) : R := r.bind g
def RL.cons (r : R) (s : RL) : RL := r.bindL fun p => s.bindL fun ps => .ok (p :: ps)
def RL.b (g : List PV → R) (r : RL) : R := r.bind g
def slotR : Option Slot → R
  | some (Slot.val p) => .ok p
  | _ => .fail
/-- a branch by an outcome -/
def R.br (r : R) (x y : R) : R := r.bind fun p => match p with
  | .bl true => x
  | .bl false => y
  | _ => .fail
def R.brS (r : R) (env : Lo) (s t : Lo → Fl) : Fl := r.go env fun p => match p with
  | .bl true => s env
  | .bl false => t env
  | _ => .fail
def Fl.seq (r : Fl) (t : Lo → Fl) : Fl := match r with
  | .nx e => t e
  | r => r
/-- what a def makes of its body's outcome -/
def Fl.out : Fl → R
  | .nx _ => .ok .non
  | .rt p => .ok p
  | .exc x _ => .exc x
  | _ => .fail
def Fl.loop (r : Fl) (k : Lo → Fl) : Fl := match r with
  | .nx e => k e
  | .ct e => k e
  | .bk e => .nx e
  | r => r
def R.set (r : R) (env : Lo) (i : Nat) : Fl := r.go env fun p => .nx (env.set i (Slot.val p))
def R.ret (r : R) (env : Lo) : Fl := r.go env fun p => .rt p
section
variable {env e : Lo} {i : Nat} {f g h : Lo → R} {fl : Lo → RL} {op op' : PV → PV → R} {s t : Lo → Fl} {p q : PV} {ps : List PV} {r : R} {rl : RL} {u : PV → R} {gl : List PV → R} {x : PX} {b : Bool}
theorem eV_app : eV i env = slotR env[i]? := nrfl
theorem eC_app : eC p env = .ok p := nrfl
theorem e2_app : e2 op f g env = R.b2 op (f env) (g env) := nrfl
theorem e1_app : e1 u f env = R.b1 u (f env) := nrfl
theorem aN_app : aN env = .ok [] := nrfl
theorem aC_app : aC f fl env = RL.cons (f env) (fl env) := nrfl
theorem eB_app : eB gl fl env = RL.b gl (fl env) := nrfl
theorem eTup_app : eTup fl env = RL.b (fun ps => if ps.length ≤ 100000 then .ok (.tup ps) else .fail) (fl env) := nrfl
theorem eLst_app : eLst fl env = RL.b (fun ps => if ps.length ≤ 100000 then .ok (.lst ps) else .fail) (fl env) := nrfl
theorem eCall_app : eCall gl ps fl env = RL.b (fun qs => gl (qs ++ ps)) (fl env) := nrfl
theorem eCall0_app : eCall gl [] fl env = RL.b gl (fl env) := by
  show (fl env).bind (fun qs => gl (qs ++ [])) = (fl env).bind gl
  congr 1
  funext qs
  rw [List.append_nil]
theorem eAnd_app : eAnd f g env = R.br (f env) (g env) (.ok (.bl false)) := by
  unfold eAnd R.br
  congr 1
theorem eOr_app : eOr f g env = R.br (f env) (.ok (.bl true)) (g env) := by
  unfold eOr R.br
  congr 1
theorem eNot_app : eNot f env = R.b1 (fun p => match p with
  | .bl b => .ok (.bl (!b))
  | _ => .fail) (f env) := nrfl
theorem eIf_app : eIf f g h env = R.br (f env) (g env) (h env) := nrfl
theorem eTru_app : eTru f env = R.b1 truP (f env) := nrfl
theorem eIsi_app {T : String} : eIsi T f env = R.b1 (fun p => match tyN p with
  | some t => match kitB t T with
    | some b => .ok (.bl b)
    | none => .fail
  | none => .fail) (f env) := nrfl
theorem eChain_app : eChain op op' f g h env = (f env).bind fun p => (g env).bind fun q => R.br (op p q) (R.b1 (op' q) (h env)) (.ok (.bl false)) := nrfl
theorem b2_ok : R.b2 op (.ok p) (.ok q) = op p q := nrfl
theorem b1_ok : R.b1 u (.ok p) = u p := nrfl
theorem cons_ok : RL.cons (.ok p) (.ok ps) = .ok (p :: ps) := nrfl
theorem b_ok : RL.b gl (.ok ps) = gl ps := nrfl
theorem br_true {x y : R} : R.br (.ok (.bl true)) x y = x := nrfl
theorem br_false {x y : R} : R.br (.ok (.bl false)) x y = y := nrfl
theorem br_dec {c : Prop} [Decidable c] {x y : R} : R.br (.ok (.bl (decide c))) x y = if c then x else y := by
  by_cases h : c
  · rw [decide_eq_true h, if_pos h]; rfl
  · rw [decide_eq_false h, if_neg h]; rfl
theorem br_b {x y : R} : R.br (.ok (.bl b)) x y = if b = true then x else y := by cases b <;> rfl
theorem brS_true : R.brS (.ok (.bl true)) env s t = s env := nrfl
theorem brS_false : R.brS (.ok (.bl false)) env s t = t env := nrfl
theorem brS_b : R.brS (.ok (.bl b)) env s t = if b = true then s env else t env := by cases b <;> rfl
theorem brS_dec {c : Prop} [Decidable c] : R.brS (.ok (.bl (decide c))) env s t = if c then s env else t env := by
  by_cases h : c
  · rw [decide_eq_true h, if_pos h]; rfl
  · rw [decide_eq_false h, if_neg h]; rfl
theorem seq_nx : (Fl.nx e).seq t = t e := nrfl
theorem seq_rt : (Fl.rt p).seq t = .rt p := nrfl
theorem seq_exc : (Fl.exc x e).seq t = .exc x e := nrfl
theorem seq_ct : (Fl.ct e).seq t = .ct e := nrfl
theorem seq_bk : (Fl.bk e).seq t = .bk e := nrfl
theorem out_rt : (Fl.rt p).out = .ok p := nrfl
theorem out_nx : (Fl.nx e).out = .ok .non := nrfl
theorem out_exc : (Fl.exc x e).out = .exc x := nrfl
theorem loop_nx : (Fl.nx e).loop t = t e := nrfl
theorem loop_ct : (Fl.ct e).loop t = t e := nrfl
theorem loop_bk : (Fl.bk e).loop t = .nx e := nrfl
theorem loop_rt : (Fl.rt p).loop t = .rt p := nrfl
theorem sNop_app : sNop env = .nx env := nrfl
theorem sSeq_app : sSeq s t env = (s env).seq t := nrfl
theorem sSet_app : sSet i f env = (f env).set env i := nrfl
theorem set_ok : (R.ok p).set env i = .nx (env.set i (Slot.val p)) := nrfl
theorem sRet_app : sRet f env = (f env).ret env := nrfl
theorem ret_ok : (R.ok p).ret env = .rt p := nrfl
theorem ret_exc : (R.exc x).ret env = .exc x env := nrfl
theorem set_exc : (R.exc x).set env i = .exc x env := nrfl
theorem sIf_app : sIf f s t env = (f env).brS env s t := nrfl
theorem sRaise_app {c : Str} : sRaise c env = .exc ⟨c, none⟩ env := nrfl
theorem sTgt_app {gg : PV → Lo → Option Lo} : sTgt gg f env = (f env).go env fun p => match gg p env with
  | some e => .nx e
  | none => .fail := nrfl
theorem sDrop_app : sDrop f env = (f env).go env fun _ => .nx env := nrfl
theorem sFor_app {it : Lo → RL} {gg : PV → Lo → Option Lo} : sFor it gg s env = (it env).go env fun l => forL gg s l env := nrfl
theorem forL_nil {gg : PV → Lo → Option Lo} : forL gg s [] env = .nx env := nrfl
theorem forL_cons {gg : PV → Lo → Option Lo} : forL gg s (p :: ps) env = match gg p env with
  | none => .fail
  | some e => (s e).loop fun e1 => forL gg s ps e1 := by
  simp only [forL]
  cases gg p env with
  | none => rfl
  | some e => cases s e <;> rfl
theorem gOne_app : gOne i p env = some (env.set i (Slot.val p)) := nrfl
theorem iSeq_app : iSeq f env = (f env).bindL itOf := nrfl
theorem iRng1_app : iRng1 f env = (f env).bindL fun p => match p with
  | .int j => if -(2 ^ 62) ≤ j ∧ j < 2 ^ 62 then .ok (rngL 0 j.toNat) else .fail
  | _ => .fail := nrfl
theorem iRng2_app : iRng2 f g env = (f env).bindL fun p => (g env).bindL fun q => match p, q with
  | .int i, .int j => if -(2 ^ 62) ≤ i ∧ i < 2 ^ 62 ∧ -(2 ^ 62) ≤ j ∧ j < 2 ^ 62 then .ok (rngL i (j - i).toNat) else .fail
  | _, _ => .fail := rfl
theorem fn_app {n np : Nat} (h : ps.length = np) : fnSem n np s ps = (s (ps.map Slot.val ++ List.replicate (n - np) Slot.none)).out := by
  unfold fnSem
  rw [if_pos h]
  cases s (ps.map Slot.val ++ List.replicate (n - np) Slot.none) <;> rfl
theorem setMany_nil : setMany [] [] env = env := nrfl
theorem setMany_cons {is : List Nat} : setMany (i :: is) (p :: ps) env = setMany is ps (env.set i (Slot.val p)) := nrfl
end
/-! ### the operators on their kinds -/
section
variable {i j : Int} {b : Bool} {l : List PV} {x y : Str}
theorem gAdd_int : gAdd (.int i) (.int j) = .ok (.int (i + j)) := nrfl
theorem gSub_int : gSub (.int i) (.int j) = .ok (.int (i - j)) := nrfl
theorem gMul_int (h : CMulX i j) : gMul (.int i) (.int j) = .ok (.int (i * j)) := if_pos h
theorem gMod_int (h : j ≠ 0) : gMod (.int i) (.int j) = .ok (.int (i.fmod j)) := if_pos h
theorem gMod_pos (h : 0 < j) : gMod (.int i) (.int j) = .ok (.int (i % j)) := by
  rw [gMod_int (by omega), Int.fmod_eq_emod_of_nonneg i (by omega)]
theorem gFdiv_int (h : CDivG i j) : gFdiv (.int i) (.int j) = .ok (.int (i.fdiv j)) := if_pos h
theorem gFdiv_pos (h0 : 0 < j) (h : Builtin.divisionGoesByPylong i j = false) : gFdiv (.int i) (.int j) = .ok (.int (i / j)) := by
  rw [gFdiv_int ⟨by omega, h⟩, Int.fdiv_eq_ediv_of_nonneg i (by omega)]
theorem gDivmod_pos (h0 : 0 < j) (h : Builtin.divisionGoesByPylong i j = false) : gDivmod [.int i, .int j] = .ok (.tup [.int (i / j), .int (i % j)]) := by
  show (if CDivG i j then R.ok (.tup [.int (i.fdiv j), .int (i.fmod j)]) else R.fail) = _
  rw [if_pos ⟨by omega, h⟩, Int.fdiv_eq_ediv_of_nonneg i (by omega), Int.fmod_eq_emod_of_nonneg i (by omega)]
theorem gPow_int (h : CPowG i j) : gPow (.int i) (.int j) = .ok (.int (i ^ j.toNat)) := if_pos h
theorem gShl_int (h : CShl i j) : gShl (.int i) (.int j) = .ok (.int (i * 2 ^ j.toNat)) := if_pos h
theorem gShr_int (h : 0 ≤ j) : gShr (.int i) (.int j) = .ok (.int (i / 2 ^ j.toNat)) := if_pos h
theorem gAnd_int : gAnd (.int i) (.int j) = .ok (.int (Builtin.bitAnd i j)) := nrfl
theorem gOr_int : gOr (.int i) (.int j) = .ok (.int (Builtin.bitOr i j)) := nrfl
theorem gXor_int : gXor (.int i) (.int j) = .ok (.int (Builtin.bitXor i j)) := nrfl
theorem gLt_int : gLt (.int i) (.int j) = .ok (.bl (decide (i < j))) := nrfl
theorem gLe_int : gLe (.int i) (.int j) = .ok (.bl (decide (i ≤ j))) := nrfl
theorem gGt_int : gGt (.int i) (.int j) = .ok (.bl (decide (j < i))) := nrfl
theorem gGe_int : gGe (.int i) (.int j) = .ok (.bl (decide (j ≤ i))) := nrfl
theorem shaped_int : SeqAt.shaped (.int i) = true := by
  unfold SeqAt.shaped
  simp [PyData.canLay0, PyData.depth]
theorem shaped_none : SeqAt.shaped .none = true := by decide
theorem gEq_int : gEq (.int i) (.int j) = .ok (.bl (decide (i = j))) := by
  show R.ok (.bl (decide (V.int i = V.int j))) = _
  rw [dec_int, Bool.beq_eq_decide_eq]
theorem gNe_int : gNe (.int i) (.int j) = .ok (.bl (!decide (i = j))) := by
  show R.ok (.bl (!decide (V.int i = V.int j))) = _
  rw [dec_int, Bool.beq_eq_decide_eq]
theorem gEq_str : gEq (.str x) (.str y) = .ok (.bl (decide (x = y))) := by
  show R.ok (.bl (decide (V.str x = V.str y))) = _
  rw [dec_str, Bool.beq_eq_decide_eq]
theorem gNe_str : gNe (.str x) (.str y) = .ok (.bl (!decide (x = y))) := by
  show R.ok (.bl (!decide (V.str x = V.str y))) = _
  rw [dec_str, Bool.beq_eq_decide_eq]
theorem gEq_bl {b c : Bool} : gEq (.bl b) (.bl c) = .ok (.bl (decide (b = c))) := by
  show R.ok (.bl (decide (V.bl b = V.bl c))) = _
  rw [dec_bl, Bool.beq_eq_decide_eq]
theorem gNe_bl {b c : Bool} : gNe (.bl b) (.bl c) = .ok (.bl (!decide (b = c))) := by
  show R.ok (.bl (!decide (V.bl b = V.bl c))) = _
  rw [dec_bl, Bool.beq_eq_decide_eq]
theorem gIs_non {p : PV} : gIs p .non = .ok (.bl (isNon p)) := nrfl
theorem gIsNot_non {p : PV} : gIsNot p .non = .ok (.bl (!isNon p)) := nrfl
theorem gNeg_int : gNeg (.int i) = .ok (.int (-i)) := nrfl
theorem gLen_tup : gLen [.tup l] = .ok (.int l.length) := nrfl
theorem gLen_lst : gLen [.lst l] = .ok (.int l.length) := nrfl
theorem gAbs_int : gAbs [.int i] = .ok (.int (if i < 0 then -i else i)) := nrfl
theorem gMax_int : gMax [.int i, .int j] = .ok (.int (if j > i then j else i)) := nrfl
theorem gMin_int : gMin [.int i, .int j] = .ok (.int (if j < i then j else i)) := nrfl
theorem gInt_int : gInt [.int i] = .ok (.int i) := nrfl
theorem gInt_bl : gInt [.bl b] = .ok (.int (if b = true then 1 else 0)) := nrfl
theorem isi_int_int : (match tyN (.int i) with
  | some t => match kitB t "int" with
    | some b => R.ok (.bl b)
    | none => .fail
  | none => .fail) = .ok (.bl true) := by
  show (match kitB "int" "int" with
    | some b => R.ok (.bl b)
    | none => .fail) = _
  rw [show kitB "int" "int" = some true by decide +kernel]
theorem isi_int_bool : (match tyN (.int i) with
  | some t => match kitB t "bool" with
    | some b => R.ok (.bl b)
    | none => .fail
  | none => .fail) = .ok (.bl false) := by
  show (match kitB "int" "bool" with
    | some b => R.ok (.bl b)
    | none => .fail) = _
  rw [show kitB "int" "bool" = some false by decide +kernel]
theorem isi_tup : (match tyN (.tup l) with
  | some t => match kitB t "tuple" with
    | some b => R.ok (.bl b)
    | none => .fail
  | none => .fail) = .ok (.bl true) := by
  show (match kitB "tuple" "tuple" with
    | some b => R.ok (.bl b)
    | none => .fail) = _
  rw [show kitB "tuple" "tuple" = some true by decide +kernel]
theorem ix_tup (k : Nat) {p : PV} (h : l[k]? = some p) : gIx (.tup l) (.int (k : Nat)) = .ok p := by
  show (match atI l (k : Nat) with
    | some z => R.ok z
    | none => .fail) = _
  rw [atI_nat h]
theorem ix_lst (k : Nat) {p : PV} (h : l[k]? = some p) : gIx (.lst l) (.int (k : Nat)) = .ok p := by
  show (match atI l (k : Nat) with
    | some z => R.ok z
    | none => .fail) = _
  rw [atI_nat h]
end
end Nf

namespace Nf
open PySem PySem.Spec PyProof.Rows L2
/-! ### how many bits a whole number has at most, found by its shape -/
theorem bits_iff {i : Int} {n : Nat} : Builtin.Int.intBits i ≤ n ↔ i.natAbs < 2 ^ n := by
  constructor
  · intro h
    unfold Builtin.Int.intBits at h
    by_cases z : i = 0
    · subst z
      exact Nat.pow_pos (by decide)
    · rw [if_neg (by simpa using z)] at h
      exact Nat.lt_of_lt_of_le Nat.lt_log2_self (Nat.pow_le_pow_right (by decide) h)
  · exact fun h => PyProof.Rows.intBits_le h
class Sb (n : outParam Nat) (i : Int) : Prop where
  le : Builtin.Int.intBits i ≤ n
theorem Sb.lt {n : Nat} {i : Int} (h : Sb n i) : i.natAbs < 2 ^ n := bits_iff.mp h.le
theorem Sb.of {n : Nat} {i : Int} (h : i.natAbs < 2 ^ n) : Sb n i := ⟨bits_iff.mpr h⟩
theorem Sb.mono {n m : Nat} {i : Int} (h : Sb n i) (hm : n ≤ m) : Sb m i := ⟨Nat.le_trans h.le hm⟩
/-- 0 ≤ i < 2 ^ n -/
theorem Sb.nn {n : Nat} {i : Int} (h0 : 0 ≤ i) (h : i < 2 ^ n) : Sb n i := .of (by
  have e : ((i.natAbs : Nat) : Int) < ((2 ^ n : Nat) : Int) := by
    rw [Int.natAbs_of_nonneg h0]
    simpa using h
  exact Int.ofNat_lt.mp e)
theorem Sb.ub {n : Nat} {i : Int} (h : Sb n i) : i < 2 ^ n := by
  have h1 := h.lt
  have h2 : i ≤ (i.natAbs : Int) := Int.le_natAbs
  have h3 : ((i.natAbs : Nat) : Int) < ((2 ^ n : Nat) : Int) := Int.ofNat_lt.mpr h1
  have h4 : ((2 ^ n : Nat) : Int) = (2 : Int) ^ n := by simp
  omega
theorem two_le (n : Nat) : 2 ^ n + 2 ^ n = 2 ^ (n + 1) := by rw [Nat.pow_succ]; omega
section
variable {n m : Nat} {i j : Int}
instance sb_lit (k : Nat) : Sb (k.log2 + 1) (no_index (OfNat.ofNat k : Int)) := .of (by
  show (Int.natAbs (OfNat.ofNat k : Int)) < _
  exact Nat.lt_log2_self)
instance sb_add [a : Sb n i] [b : Sb m j] : Sb (max n m + 1) (i + j) := .of (by
  have h1 := Nat.lt_of_lt_of_le a.lt (Nat.pow_le_pow_right (by decide) (Nat.le_max_left n m))
  have h2 := Nat.lt_of_lt_of_le b.lt (Nat.pow_le_pow_right (by decide) (Nat.le_max_right n m))
  have h3 := Int.natAbs_add_le i j
  have h4 := two_le (max n m)
  omega)
instance sb_neg [a : Sb n i] : Sb n (-i) := .of (by rw [Int.natAbs_neg]; exact a.lt)
instance sb_sub [a : Sb n i] [b : Sb m j] : Sb (max n m + 1) (i - j) := by
  rw [Int.sub_eq_add_neg]
  exact sb_add
instance sb_mul [a : Sb n i] [b : Sb m j] : Sb (n + m) (i * j) := .of (by
  rw [Int.natAbs_mul, Nat.pow_add]
  exact Nat.mul_lt_mul'' a.lt b.lt)
instance sb_natAbs [a : Sb n i] : Sb n (i.natAbs : Int) := .of (by simpa using a.lt)
instance sb_div [a : Sb n i] : Sb n (i / j) := .of (Nat.lt_of_le_of_lt (by
  have := Int.natAbs_ediv_le_natAbs i j
  exact this) a.lt)
theorem sb_mod [b : Sb m j] (h : j ≠ 0) : Sb m (i % j) := .of (by
  have h1 := Int.emod_nonneg i h
  have h2 := Int.emod_lt i h
  have h3 := b.lt
  omega)
instance sb_modlit (k : Nat) [NeZero k] : Sb (k.log2 + 1) (i % (no_index (OfNat.ofNat k : Int))) := sb_mod (by
  have := NeZero.ne k
  show (OfNat.ofNat k : Int) ≠ 0
  intro h
  exact this (show k = 0 from congrArg Int.natAbs h))
theorem sb_pow2 {k b : Nat} (h : k ≤ b) : Sb (b + 1) ((2 : Int) ^ k) := .of (by
  rw [Int.natAbs_pow]
  show 2 ^ k < _
  exact Nat.pow_lt_pow_right (by decide) (by omega))
theorem cmul_of [a : Sb n i] [b : Sb m j] (h : n + m ≤ 134217728) : CMulX i j := by
  have h1 := a.le
  have h2 := b.le
  unfold CMulX
  omega
theorem cshl_of [a : Sb n i] (h0 : 0 ≤ j) (b : Nat) (hj : j ≤ b) (h : n + b ≤ 134217728) : CShl i j := by
  have h1 := a.le
  have e : (2 : Int) ^ 27 = 134217728 := by decide
  refine ⟨h0, ?_⟩
  rw [e]
  omega
theorem cpow_of (h0 : 0 ≤ j) (h1 : j ≤ 1000000) (h : i.natAbs < 2 ^ 64) : CPowG i j := by
  refine ⟨h0, ?_⟩
  have h2 : Builtin.Int.intBits i ≤ 64 := bits_iff.mpr h
  have h3 : (Builtin.Int.intBits i : Int) * j ≤ 64 * j := Int.mul_le_mul_of_nonneg_right (by omega) h0
  have h4 : (2 : Int) ^ 27 = 134217728 := by decide
  omega
theorem cpow4 [a : Sb n i] (h : n ≤ 30000000) : CPowG i 4 := by
  have h2 := a.le
  have h4 : (2 : Int) ^ 27 = 134217728 := by decide
  refine ⟨by decide, ?_⟩
  omega
/-- C divides by itself where the divisor is not too long -/
theorem nopy_small [b : Sb m j] (h : m ≤ 8999) : Builtin.divisionGoesByPylong i j = false := PyProof.noPylong_of_log2 (by
  have h1 := b.le
  unfold Builtin.Int.intBits at h1
  split at h1
  · rename_i z
    have : j = 0 := by simpa using z
    subst this
    decide
  · omega)
/-- .. or the dividend not much longer -/
theorem nopy_near {d : Nat} [a : Sb n i] (hj : 2 ^ d ≤ j) (h : n ≤ d + 4000) : Builtin.divisionGoesByPylong i j = false := by
  have hp : (0 : Int) < 2 ^ d := Int.pow_pos (by decide)
  refine (divp_ok (i := i) (j := j) (by omega) ?_).2
  have h1 := a.le
  have h2 : d + 1 ≤ Builtin.Int.intBits j := by
    refine Decidable.byContradiction fun hn => ?_
    have h3 : Builtin.Int.intBits j ≤ d := by omega
    have h4 := bits_iff.mp h3
    have h5 : ((j.natAbs : Nat) : Int) < ((2 ^ d : Nat) : Int) := Int.ofNat_lt.mpr h4
    have h6 : ((2 ^ d : Nat) : Int) = (2 : Int) ^ d := by simp
    omega
  omega
end
/-! ### powers of two -/
theorem p2_pos (k : Nat) : (0 : Int) < 2 ^ k := Int.pow_pos (by decide)
theorem p2_ne (k : Nat) : (2 : Int) ^ k ≠ 0 := Int.ne_of_gt (p2_pos k)
theorem p2_le {a b : Nat} (h : a ≤ b) : (2 : Int) ^ a ≤ 2 ^ b := by
  obtain ⟨c, rfl⟩ := Nat.exists_eq_add_of_le h
  rw [Int.pow_add]
  have h1 := p2_pos a
  have h2 := p2_pos c
  have h3 : (2 : Int) ^ a * 1 ≤ 2 ^ a * 2 ^ c := Int.mul_le_mul_of_nonneg_left (by omega) (by omega)
  omega
theorem p2_lt {a b : Nat} (h : a < b) : (2 : Int) ^ a < 2 ^ b := by
  have h1 := p2_le (show a + 1 ≤ b by omega)
  have h2 := p2_pos a
  rw [Int.pow_succ] at h1
  omega
theorem p2_add (a b : Nat) : (2 : Int) ^ (a + b) = 2 ^ a * 2 ^ b := Int.pow_add ..
theorem p2_succ (a : Nat) : (2 : Int) ^ (a + 1) = 2 * 2 ^ a := by rw [Int.pow_succ, Int.mul_comm]
theorem one_p2 (k : Nat) : (1 : Int) * 2 ^ k = 2 ^ k := Int.one_mul _

/-! ### 2 ** k for a whole number k -/
@[irreducible] def P (k : Int) : Int := 2 ^ k.toNat
class Ub (b : outParam Nat) (j : Int) : Prop where
  le : j ≤ b
theorem P_nat (k : Nat) : P k = 2 ^ k := by unfold P; rw [Int.toNat_natCast]
theorem P_def (k : Int) : P k = 2 ^ k.toNat := by unfold P; rfl
theorem P_pos (k : Int) : 0 < P k := by rw [P_def]; exact p2_pos _
theorem P_ne (k : Int) : P k ≠ 0 := Int.ne_of_gt (P_pos k)
theorem P_one_le (k : Int) : 1 ≤ P k := P_pos k
theorem P_zero : P 0 = 1 := by rw [P_def]; decide
theorem P_one : P 1 = 2 := by rw [P_def]; decide
theorem P_add {a b : Int} (ha : 0 ≤ a) (hb : 0 ≤ b) : P (a + b) = P a * P b := by
  unfold P
  rw [Int.toNat_add ha hb, Int.pow_add]
theorem P_succ {a : Int} (ha : 0 ≤ a) : P (a + 1) = 2 * P a := by
  rw [P_add ha (by decide), P_one, Int.mul_comm]
theorem P_pred {a : Int} (ha : 1 ≤ a) : 2 * P (a - 1) = P a := by
  rw [← P_succ (by omega), Int.sub_add_cancel]
theorem P_le {a b : Int} (h : a ≤ b) : P a ≤ P b := by rw [P_def, P_def]; exact p2_le (by omega)
theorem P_lt {a b : Int} (h : a < b) (hb : 0 < b) : P a < P b := by rw [P_def, P_def]; exact p2_lt (by omega)
section
variable {n m b c : Nat} {i j k : Int}
instance ub_lit (k : Nat) : Ub k (no_index (OfNat.ofNat k : Int)) := ⟨Int.le_refl _⟩
instance ub_add [x : Ub b i] [y : Ub c j] : Ub (b + c) (i + j) := ⟨by have := x.le; have := y.le; omega⟩
instance ub_sublit [x : Ub b i] (k : Nat) : Ub b (i - (no_index (OfNat.ofNat k : Int))) := ⟨by
  have h1 := x.le
  have h2 : (0 : Int) ≤ (OfNat.ofNat k : Int) := Int.natCast_nonneg k
  omega⟩
instance sb_P [x : Ub b j] : Sb (b + 1) (P j) := by
  unfold P
  exact sb_pow2 (by have := x.le; omega)
theorem cshl [a : Sb n i] [x : Ub b j] (h0 : 0 ≤ j) (h : n + b ≤ 134217728) : CShl i j := cshl_of h0 b x.le h
theorem gShl_P (h : CShl i j) : gShl (.int i) (.int j) = .ok (.int (i * P j)) := by rw [P_def]; exact if_pos h
theorem gShr_P (h : 0 ≤ j) : gShr (.int i) (.int j) = .ok (.int (i / P j)) := by rw [P_def]; exact if_pos h
theorem nopyP [y : Ub b k] (h : b ≤ 8990) : Builtin.divisionGoesByPylong i (P k) = false := nopy_small (m := b + 1) (by omega)
end
/-! ### bits of whole numbers from 0 on -/
theorem and_mask (x k : Int) : Builtin.bitAnd x (P k - 1) = x % P k := by rw [P_def]; exact PySem.W.kbt_mask x k.toNat
theorem or_P {q r k : Int} (hq : 0 ≤ q) (h0 : 0 ≤ r) (h1 : r < P k) : Builtin.bitOr (q * P k) r = q * P k + r := by rw [P_def] at h1 ⊢; exact or_low hq h0 h1
end Nf

namespace Nf
open PySem PySem.Spec PyProof.Rows L2
/-! ### x is True, x is not False: both sides truth values -/
theorem op_isB {X : Cx} : OpR X (compareOp .Is) (fun x y H Q => ∃ a b, x = .bl a ∧ y = .bl b ∧ Q (.bl (a == b)) H) := by
  intro pins s σ H x y v u Q I rx ry h
  obtain ⟨a, b, rfl, rfl, q⟩ := h
  cases rx
  cases ry
  exact is_bool (fin_bl I q rfl)
theorem op_notB {X : Cx} : OpR X (compareOp .IsNot) (fun x y H Q => ∃ a b, x = .bl a ∧ y = .bl b ∧ Q (.bl (a != b)) H) := by
  intro pins s σ H x y v u Q I rx ry h
  obtain ⟨a, b, rfl, rfl, q⟩ := h
  cases rx
  cases ry
  exact isnot_bool (fin_bl I q rfl)
def gIsB : PV → PV → R := fun p q => match p, q with
  | .bl a, .bl b => .ok (.bl (a == b))
  | _, _ => .fail
def gIsNotB : PV → PV → R := fun p q => match p, q with
  | .bl a, .bl b => .ok (.bl (a != b))
  | _, _ => .fail
theorem opG_isB {X : Cx} : OpG X (fun x y H Q => ∃ a b, x = .bl a ∧ y = .bl b ∧ Q (.bl (a == b)) H) gIsB := by
  intro W F H Q p q v u w rp rq h
  unfold gIsB at h
  split at h
  · exact ⟨_, _, rp_bl.mp rp, rp_bl.mp rq, h F H _ (Ext.refl w) (rp_bl.mpr rfl)⟩
  · exact h.elim
theorem opG_isNotB {X : Cx} : OpG X (fun x y H Q => ∃ a b, x = .bl a ∧ y = .bl b ∧ Q (.bl (a != b)) H) gIsNotB := by
  intro W F H Q p q v u w rp rq h
  unfold gIsNotB at h
  split at h
  · exact ⟨_, _, rp_bl.mp rp, rp_bl.mp rq, h F H _ (Ext.refl w) (rp_bl.mpr rfl)⟩
  · exact h.elim
section
variable {X : Cx} {G : Hp × Hp} {W : WX} {a b : Expr} {fa fb : Lo → R} {pos : Pos}
theorem se_isB (ha : PE X a (tE X G W fa)) (hb : PE X b (tE X G W fb)) (hm : behindInMarks .Is b = false := by rfl) : PE X (.Compare a [.Is] [b] pos) (tE X G W (e2 gIsB fa fb)) := se_cmp op_isB opG_isB ha hb hm
theorem se_isnotB (ha : PE X a (tE X G W fa)) (hb : PE X b (tE X G W fb)) (hm : behindInMarks .IsNot b = false := by rfl) : PE X (.Compare a [.IsNot] [b] pos) (tE X G W (e2 gIsNotB fa fb)) := se_cmp op_notB opG_isNotB ha hb hm
theorem st_isB (ha : PE X a (tE X G W fa)) (hb : PE X b (tE X G W fb)) (hm : behindInMarks .Is b = false := by rfl) : PT X (.Compare a [.Is] [b] pos) (tT X G W (e2 gIsB fa fb)) := st_cmp op_isB opG_isB ha hb hm
theorem st_isnotB (ha : PE X a (tE X G W fa)) (hb : PE X b (tE X G W fb)) (hm : behindInMarks .IsNot b = false := by rfl) : PT X (.Compare a [.IsNot] [b] pos) (tT X G W (e2 gIsNotB fa fb)) := st_cmp op_notB opG_isNotB ha hb hm
end
/-! ### list(x), x a list or a tuple -/
def gList : List PV → R
  | [.tup l] => .ok (.lst l)
  | [.lst l] => .ok (.lst l)
  | _ => .fail
theorem callG_list {X : Cx} : CallG X (fun xs H Q => ∃ p ys, xs = [.ref p] ∧ (SqL X.K H p ys ∨ SqT X.K H p ys) ∧ ∀ l, H l = none → Q (.ref l) (upd H l (.lst ys))) gList := by
  intro W F H Q ps vs w rp h
  unfold gList at h
  split at h
  · rename_i l
    obtain ⟨v, rfl, r⟩ := rps1 rp
    obtain ⟨a, us, rfl, h1, h2⟩ := rp_tup.mp r
    refine ⟨a, us, rfl, .inr (sqt_mono w h1), fun c hc => ?_⟩
    have ex : Ext F H (upd F c (.lst us)) (upd H c (.lst us)) := Ext.new w hc
    exact h _ _ _ ex (rp_lst.mpr ⟨c, _, rfl, .inl (.inl upd_same), h2.mono ex.f⟩)
  · rename_i l
    obtain ⟨v, rfl, r⟩ := rps1 rp
    obtain ⟨a, us, rfl, h1, h2⟩ := rp_lst.mp r
    refine ⟨a, us, rfl, .inl (sql_mono w h1), fun c hc => ?_⟩
    have ex : Ext F H (upd F c (.lst us)) (upd H c (.lst us)) := Ext.new w hc
    exact h _ _ _ ex (rp_lst.mpr ⟨c, _, rfl, .inl (.inl upd_same), h2.mono ex.f⟩)
  · exact h.elim
section
variable {X : Cx} {G : Hp × Hp} {W : WX} {e : Expr} {es : List Expr} {fl : Lo → RL} {x : Str} {p pos : Pos}
theorem se_list (hgl : Gl X "list") (hm : X.mg "list" = none) (ha : PA X (e :: es) (tA X G W fl)) (he : starEach (e :: es) X.env = (false, eval e X.env) :: starEach es X.env := by rfl) (hpl : (backTo pos (starEach es X.env)).any (·.1) = false := by rfl) :
    PE X (.Call (.Name "list" p) (e :: es) [] pos) (tE X G W (eB gList fl)) := se_T call_list_of callG_list hgl hm (by decide +kernel) ha (by decide) (by decide) he hpl
end
/-! ### a list times a whole number -/
def rRepS (K : PySem.W.Frag) : R2 := fun x y H Q => ∃ l k xs, x = .ref l ∧ y = .int k ∧ SqL K H l xs ∧ -(2 ^ 63) ≤ k ∧ k < 2 ^ 63 ∧ xs.length * k.toNat ≤ sizeLine ∧
  ∀ p, H p = none → Q (.ref p) (upd H p (.lst (List.replicate k.toNat xs).flatten))
theorem op_repS {X : Cx} : OpR X (binaryOp .Mult) (rRepS X.K) := by
  intro pins s σ H x y v u Q I rx ry h
  obtain ⟨l, k, xs, rfl, rfl, hH, h1, h2, hz, q⟩ := h
  cases rx
  obtain ⟨t, rfl⟩ := ry
  obtain ⟨its, r, ⟨⟨c1, d1, dt1, sl1⟩, n, g1, k1, _, t1⟩, hl0⟩ := I.list hH
  simp only at k1 t1
  subst k1 t1
  have hl := r.length
  have hlen : its.toArray.size * k.toNat ≤ sizeLine := by rw [List.size_toArray, ← hl]; exact hz
  have hcap : ¬ its.toArray.size * k.toNat > (2 ^ 63 - 1) / 8 := by
    have : (sizeLine : Nat) ≤ (2 ^ 63 - 1) / 8 := by decide
    omega
  have hfit : ¬ (!Builtin.List.listFitsIndex k) = true := by
    rw [fitsIndex_both h1 h2]
    exact Bool.false_ne_true
  have hlong : ¬ Builtin.List.listTooLong (its.toArray.size * k.toNat) = true := by
    rw [notLongL hlen]
    exact Bool.false_ne_true
  have hnew : List.foldl (fun x1 x2 => x1 ++ x2) #[] (List.replicate (if its.toArray.isEmpty = true then 0 else k.toNat) its.toArray) = (List.replicate k.toNat its).flatten.toArray := by
    have f0 : ∀ m : Nat, List.foldl (fun x1 x2 => x1 ++ x2) #[] (List.replicate m its.toArray) = (List.replicate m its).flatten.toArray := fun m => by
      have := foldl_rep its m []
      rw [List.nil_append] at this
      exact this
    rw [f0]
    cases its with
    | nil => simp
    | cons a r' => rw [if_neg (by simp)]
  have ty : s.TypeIs (.ref l) "list" := ⟨_, g1, rfl⟩
  refine wpAny_binaryOp_repeat_ref (T := "list") (U := "int") (by decide) ty (fun s' => typeIs_int s' k t) noFill_list_mul F.fills_int_mul F.slot_int_rmul repeat_list F.slot_int_index.lookup
    (call_meets F.slot_int_rmul (typeIs_int s k t) F.entry_int_rmul (F.args_int_rmul_2 _ _) (PySem.lm_int_rmul_list_any k t l its.toArray n d1 sl1)
      ⟨g1, rfl, ty, call_meets F.slot_list_mul ty F.entry_list_mul (F.args_list_mul_2 _ _) (PySem.lm_list_mul_any l its.toArray n d1 sl1 k t hfit hcap hlong) ⟨g1, ?_⟩⟩)
  rw [hnew]
  exact ⟨.ref _, _, I.lnew (t' := s.toks) (r.rep k.toNat) (by rw [PyProof.Rows.lm_len_rep_flat, Nat.mul_comm]; exact hz), rfl, q _ I.fresh⟩
theorem Rps.rep {K : PySem.W.Frag} {mg : Str → Option Value} {F : Hp} {l : List PV} {vs : List V} (h : Rps K mg F l vs) : ∀ n : Nat, Rps K mg F (List.replicate n l).flatten (List.replicate n vs).flatten
  | 0 => by simp [Rps]
  | n + 1 => by rw [List.replicate_succ, List.replicate_succ, List.flatten_cons, List.flatten_cons]; exact h.app (h.rep n)
def gRep : PV → PV → R := fun p q => match p, q with
  | .lst l, .int k => if 0 ≤ k ∧ k < 2 ^ 63 ∧ l.length * k.toNat ≤ 100000 then .ok (.lst (List.replicate k.toNat l).flatten) else .fail
  | _, _ => .fail
theorem opG_rep {X : Cx} : OpG X (rRepS X.K) gRep := by
  intro W F H Q p q v u w rp rq h
  unfold gRep at h
  split at h
  · rename_i l k
    split at h
    · rename_i hl
      obtain ⟨a, vs, rfl, h1, h2⟩ := rp_lst.mp rp
      refine ⟨a, k, vs, rfl, rp_int.mp rq, sql_mono w h1, by omega, hl.2.1, by rw [h2.len]; exact Nat.le_trans hl.2.2 (by decide), fun c hc => ?_⟩
      have ex : Ext F H (upd F c (.lst (List.replicate k.toNat vs).flatten)) (upd H c (.lst (List.replicate k.toNat vs).flatten)) := Ext.new w hc
      exact h _ _ _ ex (rp_lst.mpr ⟨c, _, rfl, .inl (.inl upd_same), (h2.rep _).mono ex.f⟩)
    · exact h.elim
  · exact h.elim
section
variable {X : Cx} {G : Hp × Hp} {W : WX} {a b : Expr} {fa fb : Lo → R} {pos : Pos}
theorem se_rep (ha : PE X a (tE X G W fa)) (hb : PE X b (tE X G W fb)) : PE X (.BinOp a .Mult b pos) (tE X G W (e2 gRep fa fb)) := se_op op_repS opG_rep ha hb
end
/-! ### their rows -/
theorem gIsB_bl {a b : Bool} : gIsB (.bl a) (.bl b) = .ok (.bl (a == b)) := nrfl
theorem gIsNotB_bl {a b : Bool} : gIsNotB (.bl a) (.bl b) = .ok (.bl (a != b)) := nrfl
theorem gList_lst {l : List PV} : gList [.lst l] = .ok (.lst l) := nrfl
theorem gList_tup {l : List PV} : gList [.tup l] = .ok (.lst l) := nrfl
theorem gRep_2 {l : List PV} (h : l.length * 2 ≤ 100000) : gRep (.lst l) (.int 2) = .ok (.lst (l ++ l)) := by
  show (if (0 : Int) ≤ 2 ∧ (2 : Int) < 2 ^ 63 ∧ l.length * (2 : Int).toNat ≤ 100000 then R.ok (.lst (List.replicate (2 : Int).toNat l).flatten) else R.fail) = _
  rw [if_pos ⟨by decide, by decide, h⟩]
  show R.ok (.lst (List.replicate 2 l).flatten) = _
  simp [List.replicate]
end Nf

namespace Nf
open PySem PySem.Spec PyProof.Rows L2
/-! ### isinstance(e, (C, D, ..)), e an exception that was caught -/
def rIsXT (K : PySem.W.Frag) : List V → Hp → VK → Prop := fun xs H Q => ∃ (a D tp : Addr) (cs : List V) (us : List Value) (b : Bool), xs = [.ref a, .ref tp] ∧ H a = some (exHO (.ref D) a none) ∧ ExcC K D ∧ H tp = some (.tup cs) ∧ Paired ClsV cs us ∧ PySem.W.kitAny K (.ref D) us = some b ∧ Q (.bl b) H
theorem call_isXT {X : Cx} : CallR X (.builtin "isinstance") (rIsXT X.K) := by
  intro pins s σ H xs us Q I r h
  obtain ⟨a, D, tp, cs, ws, b, rfl, ha, C, hT, k, e, q⟩ := h
  obtain ⟨u1, u2, rfl, r1, r2⟩ := vals2 r
  cases (show u1 = Value.ref a from r1)
  cases (show u2 = Value.ref tp from r2)
  obtain ⟨⟨oe, hget, hz, vs, hv⟩, _⟩ := I.hok a _ ha
  have J : PySem.W.InstAt s.heap a oe D none := by
    obtain ⟨oc, od, oda, osl⟩ := oe
    obtain ⟨h1, h2⟩ := hz
    dsimp only at h1 h2 hv
    subst h1 h2 hv
    exact ⟨hget, rfl, rfl, trivial⟩
  obtain ⟨_, its, rv, o, h1, h2, n, h3⟩ := (show ObjOk X.prog X.w H s.heap tp (.tup cs) from I.hok tp _ hT)
  have e3 := ClsV.all k rv
  subst e3
  obtain ⟨oc, od, dt, sl⟩ := o
  simp only at h2 h3
  subst h2 h3
  exact PySem.W.kia_tup (PySem.W.handS_kitx_exc C.hg C.hk C.hs C.hd C.ha C.hn C.ht C.hm) I.kIn J h1 e (fun z => nomatch z) fun tk => ⟨.bl b, H, I.kept (t' := tk) fun _ _ z => z, rfl, q⟩
theorem kany_nil {K : PySem.W.Frag} {t : Value} : PySem.W.kitAny K t ((([] : List Addr)).map Value.ref) = some false := rfl
theorem kany_t {K : PySem.W.Frag} {t : Value} {Y : Addr} {Ys : List Addr} (h : PySem.W.kitOne K t (.ref Y) = some true) : PySem.W.kitAny K t ((Y :: Ys).map Value.ref) = some true := by
  simp only [List.map_cons, PySem.W.kitAny, h]
theorem kany_f {K : PySem.W.Frag} {t : Value} {Y : Addr} {Ys : List Addr} {b : Bool} (h : PySem.W.kitOne K t (.ref Y) = some false) (r : PySem.W.kitAny K t (Ys.map Value.ref) = some b) : PySem.W.kitAny K t ((Y :: Ys).map Value.ref) = some b := by
  simp only [List.map_cons, PySem.W.kitAny, h]
  exact r
theorem paired_own : ∀ Ys : List Addr, Paired ClsV (Ys.map V.ref) (Ys.map Value.ref)
  | [] => .nil
  | Y :: Ys => .cons (.own Y) (paired_own Ys)
def constA : List V → TA
  | [] => tNil
  | v :: vs => tCons (tC v) (constA vs)
theorem constA_app : ∀ (vs : List V) (σ : L2.St) (H : Hp) (Q : List V → Hp → Prop), Q vs H → constA vs σ H Q
  | [], _, _, _, h => h
  | v :: vs, σ, H, Q, h => constA_app vs σ H (fun xs H2 => Q (v :: xs) H2) h
theorem pcl_nil {X : Cx} : PA X [] (constA ((([] : List Addr)).map V.ref)) := pa_nil
theorem pcl_cons {X : Cx} {y : Str} {Y : Addr} {Ys : List Addr} {p : Pos} {es : List Expr} (hgT : Gl X y) (hmT : X.mg y = some (.ref Y)) (r : PA X es (constA (Ys.map V.ref))) (hdb : (y == ("__debug__" : Str)) = false := by decide)
    (hs : starEach (.Name y p :: es) X.env = (false, eval (.Name y p) X.env) :: starEach es X.env := by rfl) : PA X (.Name y p :: es) (constA ((Y :: Ys).map V.ref)) := pa_cons (pe_glob hgT hmT rfl hdb) r hs
section
variable {X : Cx} {G : Hp × Hp} {W : WX} {a : Expr} {fa : Lo → R} {p p2 pos : Pos} {tbl : List (Str × Bool)}
theorem se_isxT {Ys : List Addr} {es : List Expr} {k : Nat} {tpos : Pos} (hgl : Gl X "isinstance") (hm : X.mg "isinstance" = none) (hes : PA X es (constA (Ys.map V.ref))) (hlen : Ys.length ≤ 100)
    (ht : ∀ q ∈ tbl, ∃ D, X.mg q.1 = some (.ref D) ∧ ExcC X.K D ∧ PySem.W.kitAny X.K (.ref D) (Ys.map Value.ref) = some q.2) (ha : PE X a (tE X G W fa))
    (he : starEach [a, .Tuple es k tpos] X.env = (false, eval a X.env) :: starEach [.Tuple es k tpos] X.env := by rfl) (he2 : starEach [.Tuple es k tpos] X.env = [(false, eval (.Tuple es k tpos) X.env)] := by rfl) (hpl : (backTo pos (starEach [.Tuple es k tpos] X.env)).any (·.1) = false := by rfl) :
    PE X (.Call (.Name "isinstance" p) [a, .Tuple es k tpos] [] pos) (tE X G W (eIsx tbl fa)) := by
  refine PE_mono (pe_callB call_isXT hgl hm (by decide +kernel) (pa_cons ha (pa_cons (pe_tup hes) pa_nil he2) he) (by decide) (by decide) he hpl) fun σ H Q h => ?_
  obtain ⟨F, env, br, h⟩ := h
  refine tE_bind br h fun q u F1 H1 _ e1 b1 rp h1 => ?_
  unfold isxR at h1
  split at h1
  · rename_i c
    split at h1
    · rename_i b e
      obtain ⟨D, hD, C, hk⟩ := ht _ (lookB_mem e)
      obtain ⟨y, D', d, us, rfl, hy, hD', hr, hd⟩ := rp_exn.mp rp
      have eD : D' = D := by
        rw [hD] at hD'
        cases hD'
        rfl
      subst eD
      have hus : us = [] := by simpa only [Rps] using hr
      subst hus
      rcases hd with ⟨_, hd⟩ | ⟨f, w, dd, hd, _⟩
      · subst hd
        refine constA_app _ σ H1 _ ⟨by rw [List.length_map]; exact Nat.le_trans hlen (by decide), fun tp htp => ?_⟩
        have x1 : Ext F1 H1 F1 (upd H1 tp (.tup (Ys.map V.ref))) := ⟨Same.refl _, same_upd htp, b1.w.trans (same_upd htp), fun _ e _ => e⟩
        exact ⟨y, D', tp, Ys.map V.ref, Ys.map Value.ref, b, rfl, same_upd htp _ _ (b1.w _ _ hy), C, upd_same, paired_own Ys, hk, h1 F1 _ _ x1 (rp_bl.mpr rfl)⟩
      · cases hd
    · exact h1.elim
  · exact h1.elim
end
/-! ### x not in ("a", "b", ..), x a list -/
def isTx : V → Bool
  | .str _ => true
  | _ => false
def rNotL (K : PySem.W.Frag) : R2 := fun x y H Q => ∃ a xs p ys, x = .ref a ∧ SqL K H a xs ∧ y = .ref p ∧ (SqL K H p ys ∨ SqT K H p ys) ∧ ys.all isTx = true ∧ Q (.bl true) H
theorem tx_eqAt {A : Around} {s : Shared} {l : Addr} {items : Array Value} (hl : s.heap.IsList l items) (hu : A.units < cLine) : ∀ {ys : List V} {us : List Value}, Vals ys us → ys.all isTx = true → ∀ u ∈ us, SeqAt.EqAt A s u (.ref l) false
  | _, _, .nil, _ => fun u hu => by cases hu
  | y :: ys, u :: us, .cons r t, f => fun u' hm => by
    rw [List.all_cons, Bool.and_eq_true] at f
    rcases List.mem_cons.mp hm with rfl | hm
    · cases y with
      | str z => obtain ⟨t, rfl⟩ := r; exact SeqAt.EqAt.str_list z t hl hu
      | _ => exact absurd f.1 Bool.false_ne_true
    · exact tx_eqAt hl hu t f.2 u' hm
theorem anyF {α : Type} : ∀ l : List α, (l.any fun _ => false) = false
  | [] => rfl
  | _ :: l => by rw [List.any_cons, anyF l]; rfl
theorem op_notL {X : Cx} (hu : X.A.units + 64 < cLine) : OpR X (compareOp .NotIn) (rNotL X.K) := by
  intro pins s σ H x y v u Q I rx ry h
  obtain ⟨a, xs, p, ys, rfl, hs, rfl, hq, fs, q⟩ := h
  cases rx
  cases ry
  obtain ⟨its0, r0, pl0, hz0⟩ := I.list hs
  have hu' : X.A.in1.units < cLine := by show X.A.units + 1 < cLine; omega
  rcases hq with hq | hq
  · obtain ⟨its, r, pl, hz⟩ := I.list hq
    refine SeqAt.notIn_listAt (fun _ => false) pl.isList (fun w hw => tx_eqAt pl0.isList hu' r fs w (by simpa using hw)) ⟨.bl _, H, I, rfl, ?_⟩
    simpa [anyF] using q
  · obtain ⟨its, r, pl, hz⟩ := I.tuple hq
    refine SeqAt.notIn_tupleAt (fun _ => false) pl (fun w hw => tx_eqAt pl0.isList hu' r fs w (by simpa using hw)) ⟨.bl _, H, I, rfl, ?_⟩
    simpa [anyF] using q
def txP : PV → Bool
  | .str _ => true
  | _ => false
theorem txs_of {K : PySem.W.Frag} {mg : Str → Option Value} {F : Hp} : ∀ {ps : List PV} {vs : List V}, Rps K mg F ps vs → ps.all txP = true → vs.all isTx = true
  | [], vs, r, e => by
    simp only [Rps] at r
    subst r
    rfl
  | p :: ps, vs, r, e => by
    simp only [Rps] at r
    obtain ⟨v, r', rfl, h1, h2⟩ := r
    rw [List.all_cons, Bool.and_eq_true] at e
    rw [List.all_cons, Bool.and_eq_true]
    refine ⟨?_, txs_of h2 e.2⟩
    cases p with
    | str x => rw [rp_str.mp h1]; rfl
    | _ => exact absurd e.1 Bool.false_ne_true
/-- not in, the left one of any kind -/
def gNotInX : PV → PV → R := fun p q => match p with
  | .lst _ => (match itOf q with
    | .ok l => if l.all txP = true then .ok (.bl true) else .fail
    | _ => .fail)
  | _ => gNotInSeq p q
theorem opG_notX {X : Cx} : OpG X (fun x y H Q => rIn X.K true x y H Q ∨ rNotL X.K x y H Q) gNotInX := by
  intro W F H Q p q v u w rp rq h
  unfold gNotInX at h
  split at h
  · rename_i l0
    split at h
    · rename_i l e
      split at h
      · rename_i hx
        obtain ⟨a0, vs0, rfl, h1, h2⟩ := rp_lst.mp rp
        obtain ⟨a, vs, rfl, h3, h4⟩ := seq_of w rq e
        exact .inr ⟨a0, vs0, a, vs, rfl, sql_mono w h1, rfl, h3, txs_of h4 hx, h F H _ (Ext.refl w) (rp_bl.mpr rfl)⟩
      · exact h.elim
    · exact h.elim
  · exact .inl (opG_notin W F H Q p q v u w rp rq h)
section
variable {X : Cx} {G : Hp × Hp} {W : WX} {a b : Expr} {fa fb : Lo → R} {pos : Pos}
theorem se_notinX (hu : X.A.units + 64 < cLine) (ha : PE X a (tE X G W fa)) (hb : PE X b (tE X G W fb)) (hm : behindInMarks .NotIn b = false := by rfl) : PE X (.Compare a [.NotIn] [b] pos) (tE X G W (e2 gNotInX fa fb)) := se_cmp (op_notIn_seq.or (op_notL hu)) opG_notX ha hb hm
theorem st_notinX (hu : X.A.units + 64 < cLine) (ha : PE X a (tE X G W fa)) (hb : PE X b (tE X G W fb)) (hm : behindInMarks .NotIn b = false := by rfl) : PT X (.Compare a [.NotIn] [b] pos) (tT X G W (e2 gNotInX fa fb)) := st_cmp (op_notIn_seq.or (op_notL hu)) opG_notX ha hb hm
end
theorem gNotInX_l {l ts : List PV} (h : ts.all txP = true) : gNotInX (.lst l) (.tup ts) = .ok (.bl true) := if_pos h
end Nf

namespace Nf
open PySem PySem.Spec PyProof.Rows L2
/-! ### range(i, j, c) -/
def rng3L (lo c : Int) (n : Nat) : List PV := (List.range n).map fun k => .int (lo + (k : Nat) * c)
theorem itOk_rng3 {X : Cx} {F : Hp} {lo c : Int} {n : Nat} : ItOk X F (Itc lo c n) (rng3L lo c n) where
  go := fun i F1 H e w hi => by
    unfold rng3L at hi
    rw [List.length_map, List.length_range] at hi
    exact hi
  yld := fun i F1 H H' x e w hi y => by
    obtain ⟨rfl, rfl⟩ := y
    unfold rng3L at hi ⊢
    rw [List.length_map, List.length_range] at hi
    exact ⟨.int (lo + i * c), F1, by rw [List.getElem?_map, List.getElem?_range hi]; rfl, Ext.refl w, rp_int.mpr rfl⟩
  stop := fun i F1 H e w hi => by
    unfold rng3L at hi
    rw [List.length_map, List.length_range] at hi
    exact hi
def r3 : List PV → RL
  | [.int i, .int j, .int c] => if c ≠ 0 ∧ c.natAbs < 1073741824 ∧ Builtin.Range.small i j c = true ∧ 0 ≤ Builtin.Range.rangeSize i j c then .ok (rng3L i c (Builtin.Range.rangeSize i j c).toNat) else .fail
  | _ => .fail
def iR3 (fl : Lo → RL) : Lo → RL := fun env => (fl env).bindL r3
section
variable {X : Cx} {G : Hp × Hp} {W : WX} {a b c tg : Expr} {fl : Lo → RL} {p pos : Pos}
theorem si_rng3 (hg : Gl X "range") (hm : X.mg "range" = none) (ha : PA X [a, b, c] (tA X G W fl)) (hs : starEach [a, b, c] X.env = (false, eval a X.env) :: starEach [b, c] X.env := by rfl) (hpl : (backTo pos (starEach [b, c] X.env)).any (·.1) = false := by rfl) :
    PI X tg (.Call (.Name "range" p) [a, b, c] [] pos) (tI X G W (iR3 fl)) := by
  refine PI_mono (pi_range3 hg hm ha hs hpl) fun σ H Q h => ?_
  obtain ⟨F, env, br, h⟩ := h
  refine ⟨F, env, br, ?_⟩
  unfold iR3 at h
  cases e1 : fl env with
  | fail => rw [e1] at h; exact h.elim
  | exc x => rw [e1] at h; exact h
  | ok ps =>
    rw [e1] at h
    intro F1 H1 vs ex rv
    simp only [RL.bindL] at h
    cases e2 : r3 ps with
    | fail => rw [e2] at h; exact h.elim
    | exc x => 
      unfold r3 at e2
      split at e2
      · split at e2 <;> cases e2
      · cases e2
    | ok l =>
      rw [e2] at h
      unfold r3 at e2
      split at e2
      · rename_i i j k
        split at e2
        · rename_i hb
          cases e2
          simp only [Rps] at rv
          obtain ⟨v1, q1, rfl, a1, v2, q2, rfl, a2, v3, q3, rfl, a3, rfl⟩ := rv
          have e4 := rp_int.mp a1
          have e5 := rp_int.mp a2
          have e6 := rp_int.mp a3
          subst e4 e5 e6
          exact ⟨i, j, k, (Builtin.Range.rangeSize i j k).toNat, rfl, ⟨hb.1, hb.2.1, hb.2.2.1, by have := hb.2.2.2; omega⟩, h F1 H1 _ ex itOk_rng3⟩
        · cases e2
      · cases e2
end
end Nf

namespace Nf
open PySem PySem.Spec PyProof.Rows L2
/-! ### a name takes a comprehension's list as its own -/
def eLcO (it : Lo → RL) (own : List Nat) (gg : PV → Lo → Option Lo) (tt te : Lo → R) : Lo → RL := fun env => match it env with
  | .ok l => if l.length ≤ 100000 then (match lcL gg tt te (wipeL own env) l with
    | .ok qs => .ok qs
    | _ => .fail) else .fail
  | _ => .fail
def tO (X : Cx) (G : Hp × Hp) (W : WX) (fl : Lo → RL) (σ : L2.St) (H : Hp) (Q : VK) : Prop := ∃ F env, BR X.K X.mg G F H σ env ∧ match fl env with
  | .ok qs => ∀ F2 H2 D vs, Ext F H F2 H2 → F2 D = none → G.2 D = none → H D = none → H2 D = some (.lst vs) → Rps X.K X.mg F2 qs vs → Q (.ref D) H2
  | _ => False
section
variable {X : Cx} {G : Hp × Hp} {W : WX} {it : Lo → RL} {tt te : Lo → R} {gg : PV → Lo → Option Lo}
theorem lc_own {g : TG} {own : List Nat} (hgg : TgG X G g gg) (hw : TgW g own) {σ : L2.St} {H : Hp} {Q : VK} (h : tO X G W (eLcO it own gg tt te) σ H Q) : tLc (tI X G W it) g (tT X G W0 tt) (tE X G W0 te) own σ H Q := by
  obtain ⟨F, env, br, h⟩ := h
  refine ⟨F, env, br, ?_⟩
  unfold eLcO at h
  cases e1 : it env with
  | fail => rw [e1] at h; exact h
  | exc x => rw [e1] at h; exact h.elim
  | ok l =>
    rw [e1] at h
    dsimp only at h
    split at h
    rotate_left
    · exact h.elim
    rename_i qs hq
    split at hq
    rotate_left
    · cases hq
    rename_i hl
    split at hq
    rotate_left
    · cases hq
    rename_i qs' eq'
    have eq : lcL gg tt te (wipeL own env) l = .ok qs := by rw [eq']; exact hq
    intro F1 H1 J ex ok D hD
    have br1 := (br.mono ex).wipe own
    have nF1 : F1 D = none := ex.w.free hD
    have x1 : Ext F1 H1 F1 (upd H1 D (.lst [])) := ⟨Same.refl _, same_upd hD, ex.w.trans (same_upd hD), fun _ e _ => e⟩
    refine ⟨fun i m H => i + m = l.length ∧ ∃ F acc vs rest, Ext F1 H1 F H ∧ F D = none ∧ H D = some (.lst vs) ∧ Rps X.K X.mg F acc vs ∧ lcL gg tt te (wipeL own env) (l.drop i) = .ok rest ∧ acc ++ rest = qs ∧ BR X.K X.mg G F H (L2.wipe σ own) (wipeL own env),
      ⟨l.length, by omega, F1, [], [], qs, x1, nF1, upd_same, by simp only [Rps], eq, rfl, br1.mono x1⟩, ?_⟩
    intro i m H2 ⟨em, F2, acc, vs, rest, ex2, nD, eD, rA, eR, eA, br2⟩
    by_cases hlt : i < l.length
    · refine .inr ⟨ok.go i F2 H2 ex2.f ex2.w hlt, fun H => ∃ F acc vs rest, Ext F1 H1 F H ∧ F D = none ∧ H D = some (.lst vs) ∧ Rps X.K X.mg F acc vs ∧ lcL gg tt te (wipeL own env) (l.drop (i + 1)) = .ok rest ∧ acc ++ rest = qs ∧ BR X.K X.mg G F H (L2.wipe σ own) (wipeL own env),
        fun H' hN => ⟨m - 1, by omega, by omega, hN⟩, fun x H' hy => ?_⟩
      obtain ⟨p, F3, ep, ex3, rp⟩ := ok.yld i F2 H2 H' x ex2.f ex2.w hlt hy
      have ed : l.drop i = p :: l.drop (i + 1) := by
        rw [List.drop_eq_getElem_cons hlt]
        rw [List.getElem?_eq_getElem hlt] at ep
        cases ep
        rfl
      rw [ed] at eR
      simp only [lcL] at eR
      cases eg : gg p (wipeL own env) with
      | none => rw [eg] at eR; cases eR
      | some env3 =>
        rw [eg] at eR
        dsimp only at eR
        have br3 := br2.mono ex3
        have nD3 : F3 D = none := ex3.sep D nD (by rw [eD]; exact fun z => nomatch z)
        have eD3 := ex3.h _ _ eD
        have wi : L2.wipe (L2.wipe σ own) own = L2.wipe σ own := wipe_idem σ own own fun _ h => h
        have z := hw x (L2.wipe σ own) H' (fun σ2 H2 => tT X G W0 tt σ2 H2 fun b H3 => if b = true then tE X G W0 te σ2 H3 fun y H4 => ∃ acc, H4 D = some (.lst acc) ∧ acc.length < sizeLine ∧
            (∃ F acc' vs rest, Ext F1 H1 F (upd H4 D (.lst (acc ++ [y]))) ∧ F D = none ∧ (upd H4 D (.lst (acc ++ [y]))) D = some (.lst vs) ∧ Rps X.K X.mg F acc' vs ∧ lcL gg tt te (wipeL own env) (l.drop (i + 1)) = .ok rest ∧ acc' ++ rest = qs ∧ BR X.K X.mg G F (upd H4 D (.lst (acc ++ [y]))) (L2.wipe σ own) (wipeL own env))
          else (∃ F acc' vs rest, Ext F1 H1 F H3 ∧ F D = none ∧ H3 D = some (.lst vs) ∧ Rps X.K X.mg F acc' vs ∧ lcL gg tt te (wipeL own env) (l.drop (i + 1)) = .ok rest ∧ acc' ++ rest = qs ∧ BR X.K X.mg G F H3 (L2.wipe σ own) (wipeL own env))) (hgg F3 H' _ _ env3 p x _ br3 rp eg fun σ' b' => ?_)
        · rw [wi] at z
          exact z
        · refine ⟨F3, env3, b', ?_⟩
          cases et : tt env3 with
          | fail => rw [et] at eR; cases eR
          | exc x => rw [et] at eR; cases eR
          | ok tv =>
            rw [et] at eR
            intro F4 H4 v4 ex4 rv4
            split at eR
            · rename_i e
              cases e
              refine ⟨true, rp_bl.mp rv4, ?_⟩
              dsimp only
              rw [if_pos rfl]
              refine ⟨F4, env3, b'.mono ex4, ?_⟩
              cases ee : te env3 with
              | fail => rw [ee] at eR; cases eR
              | exc x => rw [ee] at eR; cases eR
              | ok q =>
                rw [ee] at eR
                intro F5 H5 y ex5 ry
                dsimp only at eR
                split at eR
                · rename_i qs' eq'
                  cases eR
                  have ex35 := ex4.trans ex5
                  have eD5 := ex35.h _ _ eD3
                  have nD5 : F5 D = none := ex35.sep D nD3 (by rw [eD3]; exact fun z => nomatch z)
                  have hlen : acc.length < 100000 := by
                    have h1 := congrArg List.length eA
                    have h2 := lcL_len eq
                    simp only [List.length_append, List.length_cons] at h1
                    omega
                  refine ⟨vs, eD5, by rw [rA.len]; exact Nat.lt_of_lt_of_le hlen (by decide), F5, acc ++ [q], vs ++ [y], qs', ?_, nD5, upd_same, (rA.mono (ex3.trans ex35).f).app (Rps.one ry), eq', by rw [List.append_assoc]; exact eA, ?_⟩
                  · have ex15 : Ext F1 H1 F5 H5 := ex2.trans (ex3.trans ex35)
                    exact ⟨ex15.f, fun b o e => by rw [upd_ne (ne_of_none e hD)]; exact ex15.h _ _ e, fun b o e => by rw [upd_ne (ne_of_none e nD5)]; exact ex15.w _ _ e, ex15.sep⟩
                  · have b5 := br3.mono ex35
                    have gD : G.2 D = none := (br.mono ex).ext.h.free hD
                    refine ⟨⟨b5.ext.f, fun b o e => by rw [upd_ne (ne_of_none e gD)]; exact b5.ext.h _ _ e, fun b o e => by rw [upd_ne (ne_of_none e nD5)]; exact b5.ext.w _ _ e, b5.ext.sep⟩, b5.len, b5.val, fun j d m e => ?_, b5.sep⟩
                    obtain ⟨a, ws, g1, g2, g3, g4, g5⟩ := b5.own j d m e
                    have ne : a ≠ D := fun z => by
                      subst z
                      obtain ⟨a', ws', k1, k2, k3, k4, k5⟩ := br1.own j d m e
                      rw [g1] at k1
                      cases k1
                      rw [hD] at k4; cases k4
                    exact ⟨a, ws, g1, g2, g3, by rw [upd_ne ne]; exact g4, g5⟩
                · cases eR
            · rename_i e
              cases e
              refine ⟨false, rp_bl.mp rv4, ?_⟩
              dsimp only
              rw [if_neg (by decide)]
              exact ⟨F4, acc, vs, rest, ex2.trans (ex3.trans ex4), ex4.sep D nD3 (by rw [eD3]; exact fun z => nomatch z), ex4.h _ _ eD3, rA.mono (ex3.trans ex4).f, eR, eA, br3.mono ex4⟩
            · cases eR
    · refine .inl ⟨ok.stop i F2 H2 ex2.f ex2.w (by omega), ?_⟩
      rw [List.drop_eq_nil_of_le (by omega)] at eR
      cases eR
      rw [List.append_nil] at eA
      subst eA
      exact h F2 H2 D vs (ex.trans ex2) nD ((br.mono ex).ext.h.free hD) (ex.h.free hD) eD rA
end
section
variable {K : PySem.W.Frag} {mg : Str → Option Value} {G : Hp × Hp} {F H : Hp} {σ : L2.St} {env : Lo}
theorem BR.mask (b : BR K mg G F H σ env) {D : Addr} (h1 : F D = none) (h2 : G.2 D = none) (h3 : ∀ (j : Nat) (d : Option (List Key)) (m : List PV) (a : Addr), env[j]? = some (Slot.ow d m) → σ[j]? = some (some (V.ref a)) → a ≠ D) : BR K mg G F (fun x => if x = D then none else H x) σ env where
  ext := ⟨b.ext.f, fun x o q => by
    show (if x = D then none else H x) = some o
    rw [if_neg (ne_of_none q h2)]; exact b.ext.h _ _ q, fun x o q => by
    show (if x = D then none else H x) = some o
    rw [if_neg (ne_of_none q h1)]; exact b.ext.w _ _ q, b.ext.sep⟩
  len := b.len
  val := b.val
  own := fun j d m e => by
    obtain ⟨a, ws, g1, g2, g3, g4, g5⟩ := b.own j d m e
    exact ⟨a, ws, g1, g2, g3, by show (if a = D then none else H a) = _; rw [if_neg (h3 j d m a e g1)]; exact g4, g5⟩
  sep := b.sep
theorem BR.ownNew (b : BR K mg G F H σ env) {i : Nat} {D : Addr} {l : List PV} {vs : List V} (h1 : F D = none) (h2 : G.2 D = none) (h3 : ∀ (j : Nat) (d : Option (List Key)) (m : List PV) (a : Addr), env[j]? = some (Slot.ow d m) → σ[j]? = some (some (V.ref a)) → a ≠ D) (h4 : H D = some (.lst vs)) (h : Rps K mg F l vs) :
    BR K mg G F H (σ.set i (some (.ref D))) (env.set i (Slot.own l)) := by
  have h5 := (b.mask h1 h2 h3).setOwn (i := i) (a := D) h (if_pos rfl)
  have e : upd (fun x => if x = D then none else H x) D (.lst vs) = H := by
    funext x
    by_cases hx : x = D
    · subst hx; rw [upd_same, h4]
    · rw [upd_ne hx]; exact if_neg hx
  rw [e] at h5
  exact h5
end
section
variable {X : Cx} {G : Hp × Hp} {W : WX} {it : Lo → RL} {tt te : Lo → R} {gg : PV → Lo → Option Lo} {elt tg iter c : Expr} {scope : Scope} {pos : Pos}
theorem ss_setLcO (i : Nat) {y : Str} {py spos : Pos} {ifs : List Expr} {own : List (Str × Nat)} {g : TG} (hc : X.calm = true) (hN : X.N.Nodup) (hi : PI X tg iter (tI X G W it)) (ok : BlkOk X.N X.env.scope scope own) (hgg : TgG X G g gg) (hw : TgW g (own.map (·.2)))
    (hg : ∀ (s : Shared) (H : Hp) (C : Addr) (cl : List (Str × Addr)) (fp : List Addr), PG (X.blk s H scope (compEnvC scope cl C X.env) fp) tg g)
    (ht : ∀ (s : Shared) (H : Hp) (C : Addr) (cl : List (Str × Addr)) (fp : List Addr), PTs (X.blk s H scope (compEnvC scope cl C X.env) fp) ifs (tT (X.blk s H scope (compEnvC scope cl C X.env) fp) G W0 tt))
    (he : ∀ (s : Shared) (H : Hp) (C : Addr) (cl : List (Str × Addr)) (fp : List Addr), PE (X.blk s H scope (compEnvC scope cl C X.env) fp) elt (tE (X.blk s H scope (compEnvC scope cl C X.env) fp) G W0 te))
    (hsw : swapsWith (.ListComp elt [⟨tg, iter, ifs, 0⟩] scope pos) (some (.Name y py)) spos.line X.env = pure true)
    (hy : X.N[i]? = some y := by rfl) (hyl : X.env.scope.names.lookup y = some .local := by rfl) (hs : ∀ x, foldedSetIterable iter X.env x = pure x := by intro _; rfl) :
    PS X (.Assign [.Name y py] (.ListComp elt [⟨tg, iter, ifs, 0⟩] scope pos) spos) (tSt X G W (sNew i (eLcO it (own.map (·.2)) gg tt te))) := by
  refine PS_mono (ps_setLc (tt := tT X G W0 tt) (te := tE X G W0 te) hc hN hy hyl hsw hi ok hg ht he hs) fun D σ H h => ?_
  obtain ⟨F, env, br, h⟩ := h
  refine lc_own (W := W) hgg hw ⟨F, env, br, ?_⟩
  unfold sNew at h
  cases e1 : eLcO it (own.map (·.2)) gg tt te env with
  | fail => rw [e1] at h; exact h.elim
  | exc x =>
    unfold eLcO at e1
    split at e1
    · split at e1
      · split at e1 <;> cases e1
      · cases e1
    · cases e1
  | ok qs =>
    rw [e1] at h
    intro F2 H2 A vs ex nF nG nH eA rA
    simp only [RL.go_ok] at h
    split at h
    · refine h F2 H2 _ ex.f ((br.mono ex).ownNew nF nG (fun j d m a e1 e2 z => ?_) eA rA)
      subst z
      obtain ⟨a', ws, g1, g2, g3, g4, g5⟩ := br.own j d m e1
      rw [e2] at g1
      cases g1
      rw [nH] at g4
      cases g4
    · exact h.elim
end
/-! ### x[i] = v, x a list of one's own -/
def sSetI (i : Nat) (fi f : Lo → R) : Lo → Fl := fun env => match env[i]? with
  | some (.ow .none l) => (f env).go env fun p => (fi env).go env fun q => (match q with
    | .int k => (match ixN l.length k with
      | some j => .nx (env.set i (Slot.own (l.set j p)))
      | none => .fail)
    | _ => .fail)
  | _ => .fail
section
variable {X : Cx} {G : Hp × Hp} {W : WX} {e ix : Expr} {f fi : Lo → R} {pos p1 p2 : Pos}
theorem ss_setI (i : Nat) {x : Str} (he : PE X e (tE X G W f)) (hx : PE X ix (tE X G W fi)) (hi : X.N[i]? = some x := by rfl) (hv : Vis X.env.scope x := by first | exact Or.inl rfl | exact Or.inr (Or.inl rfl) | exact Or.inr (Or.inr rfl)) (hd : (x == ("__debug__" : Str)) = false := by decide)
    (hcd : (x == ("__classdict__" : Str)) = false := by decide) (hs : swapsWithSole [.Subscript (.Name x p1) ix p2] e pos.line X.env = pure false := by rfl) (hw : swappedStores [.Subscript (.Name x p1) ix p2] e X.env = pure none := by rfl)
    (h1 : (assignEach [.Subscript (.Name x p1) ix p2] X.env).map (·.2) = [assign (.Subscript (.Name x p1) ix p2) X.env] := by rfl)
    (ha : ∀ v, assign (.Subscript (.Name x p1) ix p2) X.env v = (do
      let ov ← holding [v] (eval (.Name x p1) X.env)
      let iv ← holding [v, ov] (eval ix X.env)
      standAt p2
      holding [v, ov, iv] (setItem ov iv v)
      release [v, ov, iv] []) := by intro _; rfl) : PS X (.Assign [.Subscript (.Name x p1) ix p2] e pos) (tSt X G W (sSetI i fi f)) := by
  refine PS_mono (ps_asg he (pg_sub (pe_var hi hv hd hcd) hx set_list ha) hs hw h1) fun D σ H h => ?_
  obtain ⟨F, env, br, h⟩ := h
  unfold sSetI at h
  split at h
  · rename_i l e
    refine tE_go br h fun p v F1 H1 _ e1 b1 rp h1 => ?_
    obtain ⟨a, vs, q1, _⟩ := br.ownL i l e
    refine ⟨.ref a, q1, ?_⟩
    refine tE_go b1 h1 fun q w F2 H2 _ e2 b2 rq h2 => ?_
    obtain ⟨a2, vs2, q1', q2, q3, q4, q5⟩ := b2.ownL i l e
    rw [q1] at q1'
    cases q1'
    split at h2
    · rename_i k _
      split at h2
      · rename_i j hj
        refine ⟨a, vs2, k, j, rfl, rp_int.mp rq, q4, by rw [q5.len]; exact hj, ?_⟩
        exact h2 F2 _ _ (Same.refl F2) (b2.change e q1 (q5.set j (rp.mono e2.f)))
      · exact h2.elim
    · exact h2.elim
  · exact h.elim
end
/-! ### rows -/
theorem sSetI_app {i : Nat} {fi f : Lo → R} {env : Lo} : sSetI i fi f env = match env[i]? with
  | some (.ow .none l) => (f env).go env fun p => (fi env).go env fun q => (match q with
    | .int k => (match ixN l.length k with
      | some j => .nx (env.set i (Slot.own (l.set j p)))
      | none => .fail)
    | _ => .fail)
  | _ => .fail := nrfl
end Nf

namespace Nf
open PySem PySem.Spec PyProof.Rows L2
/-! ### a name takes list(x) as its own -/
def sNewL (i : Nat) (fl : Lo → RL) : Lo → Fl := fun env => (fl env).go env fun ps => (match ps with
  | [.tup l] => .nx (env.set i (Slot.own l))
  | [.lst l] => .nx (env.set i (Slot.own l))
  | _ => .fail)
section
variable {X : Cx} {G : Hp × Hp} {W : WX} {e : Expr} {es : List Expr} {fl : Lo → RL} {p pos pos2 : Pos}
theorem ss_newL (i : Nat) {x : Str} {pos' : Pos} (hgl : Gl X "list") (hm : X.mg "list" = none) (hN : X.N.Nodup) (ha : PA X (e :: es) (tA X G W fl)) (hi : X.N[i]? = some x := by rfl) (hx : Loc X.env.scope x := by first | exact Or.inl rfl | exact Or.inr rfl)
    (hs : swapsWith (.Call (.Name "list" p) (e :: es) [] pos2) (some (.Name x pos')) pos.line X.env = pure false := by rfl) (hf : X.fn x = true ∨ X.env.scope.names.lookup x = some .local := by first | exact .inl rfl | exact .inr rfl)
    (he : starEach (e :: es) X.env = (false, eval e X.env) :: starEach es X.env := by rfl) (hpl : (backTo pos2 (starEach es X.env)).any (·.1) = false := by rfl) :
    PS X (.Assign [.Name x pos'] (.Call (.Name "list" p) (e :: es) [] pos2) pos) (tSt X G W (sNewL i fl)) := by
  refine PS_mono (ps_set hN hi hx (pe_callTy call_list_of hgl hm (by decide +kernel) ha (by decide) (by decide) he hpl) hs hf) fun D σ H h => ?_
  obtain ⟨F, env, br, h⟩ := h
  refine tA_go br h fun ps vs F1 H1 e1 b1 rp h1 => ?_
  split at h1
  · rename_i l
    obtain ⟨v, rfl, r⟩ := rps1 rp
    obtain ⟨a, us, rfl, g1, g2⟩ := rp_tup.mp r
    exact ⟨a, us, rfl, .inr (sqt_mono b1.w g1), fun c hc => h1 F1 _ _ (Same.refl F1) (b1.setOwn g2 hc)⟩
  · rename_i l
    obtain ⟨v, rfl, r⟩ := rps1 rp
    obtain ⟨a, us, rfl, g1, g2⟩ := rp_lst.mp r
    exact ⟨a, us, rfl, .inl (sql_mono b1.w g1), fun c hc => h1 F1 _ _ (Same.refl F1) (b1.setOwn g2 hc)⟩
  · exact h1.elim
end
theorem sNewL_app {i : Nat} {fl : Lo → RL} {env : Lo} : sNewL i fl env = (fl env).go env fun ps => (match ps with
  | [.tup l] => .nx (env.set i (Slot.own l))
  | [.lst l] => .nx (env.set i (Slot.own l))
  | _ => .fail) := nrfl
end Nf

namespace Nf
open PySem PySem.Spec PyProof.Rows L2
/-! ### reversed(x), x[::-1] -/
theorem Rps.rev {K : PySem.W.Frag} {mg : Str → Option Value} {F : Hp} : ∀ {l : List PV} {vs : List V}, Rps K mg F l vs → Rps K mg F l.reverse vs.reverse
  | [], vs, h => by simp only [Rps] at h; subst h; simp only [List.reverse_nil, Rps]
  | p :: ps, vs, h => by
    simp only [Rps] at h
    obtain ⟨v, r, rfl, h1, h2⟩ := h
    rw [List.reverse_cons, List.reverse_cons]
    exact (Rps.rev h2).app (Rps.one h1)
theorem itOk_rev {X : Cx} {F : Hp} {a : Addr} {vs : List V} {l : List PV} (h : SqL X.K F a vs) (r : Rps X.K X.mg F l vs) : ItOk X F (Itv X.K a vs.length) l.reverse where
  go := fun i F1 H e w hi => by
    rw [List.length_reverse] at hi
    have h2 : i < vs.length := by rw [r.len]; exact hi
    exact ⟨h2, vs, vs[vs.length - 1 - i], sql_mono (e.trans w) h, List.getElem?_eq_getElem (by omega)⟩
  yld := fun i F1 H H' x e w hi y => by
    obtain ⟨rfl, y⟩ := y
    have e1 := y vs (sql_mono (e.trans w) h)
    have hi2 : i < vs.reverse.length := by rw [List.length_reverse, r.len]; rw [List.length_reverse] at hi; exact hi
    rw [← List.getElem?_reverse (by rw [List.length_reverse] at hi2; exact hi2)] at e1
    obtain ⟨v, e2, rv⟩ := r.rev.get (List.getElem?_eq_getElem hi)
    rw [e1] at e2
    cases e2
    exact ⟨_, F1, List.getElem?_eq_getElem hi, Ext.refl w, rv.mono e⟩
  stop := fun i F1 H e w hi => by
    rw [List.length_reverse, ← r.len] at hi
    exact hi
theorem itOk_revT {X : Cx} {F : Hp} {a : Addr} {vs : List V} {l : List PV} (h : SqT X.K F a vs) (r : Rps X.K X.mg F l vs) : ItOk X F (RT.ItvT X.K a vs.length) l.reverse where
  go := fun i F1 H e w hi => by
    rw [List.length_reverse] at hi
    have h2 : i < vs.length := by rw [r.len]; exact hi
    exact ⟨h2, vs, vs[vs.length - 1 - i], sqt_mono (e.trans w) h, List.getElem?_eq_getElem (by omega)⟩
  yld := fun i F1 H H' x e w hi y => by
    obtain ⟨rfl, y⟩ := y
    have e1 := y vs (sqt_mono (e.trans w) h)
    have hi2 : i < vs.reverse.length := by rw [List.length_reverse, r.len]; rw [List.length_reverse] at hi; exact hi
    rw [← List.getElem?_reverse (by rw [List.length_reverse] at hi2; exact hi2)] at e1
    obtain ⟨v, e2, rv⟩ := r.rev.get (List.getElem?_eq_getElem hi)
    rw [e1] at e2
    cases e2
    exact ⟨_, F1, List.getElem?_eq_getElem hi, Ext.refl w, rv.mono e⟩
  stop := fun i F1 H e w hi => by
    rw [List.length_reverse, ← r.len] at hi
    exact hi
def itRv : PV → RL
  | .lst l => .ok l.reverse
  | .tup l => .ok l.reverse
  | _ => .fail
def iRev (f : Lo → R) : Lo → RL := fun env => (f env).bindL itRv
section
variable {X : Cx} {G : Hp × Hp} {W : WX} {e tg : Expr} {f : Lo → R} {p pos : Pos}
theorem si_rev (hg : Gl X "reversed") (hm : X.mg "reversed" = none) (he : PE X e (tE X G W f)) (hs : starEach [e] X.env = (false, eval e X.env) :: starEach [] X.env := by rfl) : PI X tg (.Call (.Name "reversed" p) [e] [] pos) (tI X G W (iRev f)) := by
  refine PI_mono (RT.pi_revA hg hm he hs) fun σ H Q h => ?_
  obtain ⟨F, env, br, h⟩ := h
  refine ⟨F, env, br, ?_⟩
  unfold iRev at h
  cases e1 : f env with
  | fail => rw [e1] at h; exact h.elim
  | exc x => rw [e1] at h; exact h
  | ok q =>
    rw [e1] at h
    intro F1 H1 v ex rv
    cases q with
    | lst l =>
      obtain ⟨a, vs, rfl, h1, h2⟩ := rp_lst.mp rv
      exact ⟨a, vs, rfl, .inl ⟨sql_mono ex.w h1, h F1 H1 _ ex (itOk_rev h1 h2)⟩⟩
    | tup l =>
      obtain ⟨a, vs, rfl, h1, h2⟩ := rp_tup.mp rv
      exact ⟨a, vs, rfl, .inr ⟨sqt_mono ex.w h1, h F1 H1 _ ex (itOk_revT h1 h2)⟩⟩
    | non => exact h.elim
    | bl _ => exact h.elim
    | int _ => exact h.elim
    | str _ => exact h.elim
    | ins _ => exact h.elim
    | exn _ _ => exact h.elim
    | dct _ _ => exact h.elim
def gRevL : PV → R
  | .lst l => .ok (.lst l.reverse)
  | _ => .fail
theorem se_revL {k : Nat} {p1 p2 p3 : Pos} (he : PE X e (tE X G W f)) : PE X (.Subscript e (.Slice none none (some (.UnaryOp .USub (.Constant (.int 1) k p1) p2)) p3) pos) (tE X G W (e1 gRevL f)) := by
  refine PE_mono (pe_revL he) fun σ H Q h => ?_
  obtain ⟨F, env, br, h⟩ := h
  refine tE_bind br h fun p v F1 H1 _ e1 b1 rp h1 => ?_
  unfold gRevL at h1
  split at h1
  · rename_i l
    obtain ⟨a, vs, rfl, g1, g2⟩ := rp_lst.mp rp
    refine ⟨a, vs, rfl, sql_mono b1.w g1, fun c hc => ?_⟩
    have ex : Ext F1 H1 (upd F1 c (.lst vs.reverse)) (upd H1 c (.lst vs.reverse)) := Ext.new b1.w hc
    exact h1 _ _ _ ex (rp_lst.mpr ⟨c, _, rfl, .inl (.inl upd_same), g2.rev.mono ex.f⟩)
  · exact h1.elim
end
theorem iRev_app {f : Lo → R} {env : Lo} : iRev f env = (f env).bindL itRv := nrfl
theorem itRv_lst {l : List PV} : itRv (.lst l) = .ok l.reverse := nrfl
theorem itRv_tup {l : List PV} : itRv (.tup l) = .ok l.reverse := nrfl
theorem gRevL_lst {l : List PV} : gRevL (.lst l) = .ok (.lst l.reverse) := nrfl
end Nf

namespace Nf
open PySem PySem.Spec PyProof.Rows L2
/-! ### dicts -/
def keyP : PV → Option Key
  | .int i => some (.inl i)
  | .str x => some (.inr x)
  | _ => none
def lookK : List Key → List PV → Key → Option PV
  | k :: ks, p :: ps, q => if k = q then some p else lookK ks ps q
  | _, _, _ => none
def putV : List Key → List PV → Key → PV → List PV
  | k :: ks, p :: ps, q, v => (if k = q then v else p) :: putV ks ps q v
  | _, _, _, _ => []
theorem keyP_rp {K : PySem.W.Frag} {mg : Str → Option Value} {F : Hp} {p : PV} {v : V} {k : Key} (r : Rp K mg F p v) (e : keyP p = some k) : v = kV k := by
  cases p with
  | int i => cases e; exact rp_int.mp r
  | str x => cases e; exact rp_str.mp r
  | non => cases e
  | bl _ => cases e
  | tup _ => cases e
  | lst _ => cases e
  | ins _ => cases e
  | exn _ _ => cases e
  | dct _ _ => cases e
section
variable {K : PySem.W.Frag} {mg : Str → Option Value} {F H : Hp}
theorem lookK_some : ∀ {ks : List Key} {l : List PV} {us : List V} {k : Key} {p : PV}, Rps K mg F l us → lookK ks l k = some p → ∃ v, valV (ks.zip us) k = some v ∧ Rp K mg F p v
  | [], l, _, _, _, _, e => by cases l <;> cases e
  | _ :: _, [], _, _, _, _, e => by cases e
  | k :: ks, p :: ps, us, q, z, h, e => by
    simp only [Rps] at h
    obtain ⟨v, r, rfl, h1, h2⟩ := h
    rw [List.zip_cons_cons]
    unfold lookK at e
    split at e
    · rename_i hk
      cases e
      exact ⟨v, valV_pos hk, h1⟩
    · rename_i hk
      obtain ⟨u, e1, e2⟩ := lookK_some h2 e
      exact ⟨u, by rw [valV_neg hk]; exact e1, e2⟩
theorem lookK_none : ∀ {ks : List Key} {l : List PV} {us : List V} {k : Key}, Rps K mg F l us → us.length = ks.length → lookK ks l k = none → valV (ks.zip us) k = none
  | [], l, us, _, _, _, _ => by rw [List.zip_nil_left]; exact valV_nil
  | k :: ks, [], us, _, h, hl, _ => by simp only [Rps] at h; subst h; cases hl
  | k :: ks, p :: ps, us, q, h, hl, e => by
    simp only [Rps] at h
    obtain ⟨v, r, rfl, h1, h2⟩ := h
    rw [List.zip_cons_cons]
    unfold lookK at e
    split at e
    · cases e
    · rename_i hk
      rw [valV_neg hk]
      exact lookK_none h2 (by simpa using hl) e
theorem any_some {ks : List Key} {us : List V} {k : Key} {v : V} (h : valV (ks.zip us) k = some v) : ((ks.zip us).any fun kv => decide (kv.1 = k)) = true := by
  rw [valV_any, h]; rfl
theorem putK_old : ∀ {ks : List Key} {l : List PV} {us : List V} {k : Key} {p : PV} {v : V}, Rps K mg F l us → us.length = ks.length → Rp K mg F p v →
    ∃ ws, ((ks.zip us).map fun kv => if kv.1 = k then (kv.1, v) else kv) = ks.zip ws ∧ Rps K mg F (putV ks l k p) ws ∧ ws.length = ks.length
  | [], l, us, k, p, v, h, hl, r => ⟨[], by rw [List.zip_nil_left]; rfl, by cases l <;> simp only [putV, Rps], rfl⟩
  | k :: ks, [], us, _, _, _, h, hl, _ => by simp only [Rps] at h; subst h; cases hl
  | k :: ks, p :: ps, us, q, z, v, h, hl, r => by
    simp only [Rps] at h
    obtain ⟨u, us, rfl, h1, h2⟩ := h
    obtain ⟨ws, e1, e2, e3⟩ := putK_old (k := q) h2 (by simpa using hl) r
    rw [List.zip_cons_cons, List.map_cons, e1]
    by_cases hk : k = q
    · refine ⟨v :: ws, by simp [hk], ?_, by simp [e3]⟩
      unfold putV
      rw [if_pos hk]
      simp only [Rps]
      exact ⟨v, ws, rfl, r, e2⟩
    · refine ⟨u :: ws, by simp [hk], ?_, by simp [e3]⟩
      unfold putV
      rw [if_neg hk]
      simp only [Rps]
      exact ⟨u, ws, rfl, h1, e2⟩
end
/-! x = {} -/
def sNewD (i : Nat) : Lo → Fl := fun env => .nx (env.set i (Slot.owd [] []))
/-- x[k] = v -/
def putD (ks : List Key) (l : List PV) (k : Key) (p : PV) : Slot := if (lookK ks l k).isSome = true then Slot.owd ks (putV ks l k p) else Slot.owd (ks ++ [k]) (l ++ [p])
def putGo (o : Option Slot) (r rk : R) (env : Lo) (i : Nat) : Fl := match o with
  | some (.ow (.some ks) l) => r.go env fun p => rk.go env fun q => (match keyP q with
    | some k => if ks.length + 1 ≤ 100000 then .nx (env.set i (putD ks l k p)) else .fail
    | none => .fail)
  | _ => .fail
def sPutD (i : Nat) (fk f : Lo → R) : Lo → Fl := fun env => putGo env[i]? (f env) (fk env) env i
/-- x[k], x a name -/
def getGo (o : Option Slot) (rk : R) : R := match o with
  | some (.ow (.some ks) l) => rk.bind fun q => (match keyP q with
    | some k => (match lookK ks l k with
      | some p => .ok p
      | none => .fail)
    | none => .fail)
  | some (Slot.val (.dct ks l)) => rk.bind fun q => (match keyP q with
    | some k => (match lookK ks l k with
      | some p => .ok p
      | none => .fail)
    | none => .fail)
  | _ => .fail
def eGetD (i : Nat) (fk : Lo → R) : Lo → R := fun env => getGo env[i]? (fk env)
/-- x[k], x any expression -/
def gIxD : PV → PV → R := fun p q => match p with
  | .dct ks l => (match keyP q with
    | some k => (match lookK ks l k with
      | some p => .ok p
      | none => .fail)
    | none => .fail)
  | _ => .fail
section
variable {X : Cx} {G : Hp × Hp} {W : WX} {a b e ix : Expr} {fa fb f fi : Lo → R} {pos p1 p2 p3 : Pos}
theorem ss_newD (i : Nat) {x : Str} {pos' : Pos} (hN : X.N.Nodup) (hi : X.N[i]? = some x := by rfl) (hx : Loc X.env.scope x := by first | exact Or.inl rfl | exact Or.inr rfl)
    (hs : swapsWith (.Dict [] [] p2) (some (.Name x pos')) pos.line X.env = pure false := by rfl) (hf : X.fn x = true ∨ X.env.scope.names.lookup x = some .local := by first | exact .inl rfl | exact .inr rfl) :
    PS X (.Assign [.Name x pos'] (.Dict [] [] p2) pos) (tSt X G W (sNewD i)) := by
  refine PS_mono (ps_set hN hi hx pe_dnewK hs hf) fun D σ H h => ?_
  obtain ⟨F, env, br, h⟩ := h
  intro c hc
  exact h F _ _ (Same.refl F) (br.setOw (d := some []) (l := []) (vs := []) (by simp only [Rps]) rfl hc)
theorem ss_putD (i : Nat) {x : Str} (hu : X.A.units + 64 < cLine) (he : PE X e (tE X G W f)) (hx : PE X ix (tE X G W fi)) (hi : X.N[i]? = some x := by rfl) (hv : Vis X.env.scope x := by first | exact Or.inl rfl | exact Or.inr (Or.inl rfl) | exact Or.inr (Or.inr rfl)) (hd : (x == ("__debug__" : Str)) = false := by decide)
    (hcd : (x == ("__classdict__" : Str)) = false := by decide) (hs : swapsWith e (some (.Subscript (.Name x p1) ix p2)) pos.line X.env = pure false := by rfl) :
    PS X (.Assign [.Subscript (.Name x p1) ix p2] e pos) (tSt X G W (sPutD i fi f)) := by
  refine PS_mono (ps_dput (by omega) (pe_var hi hv hd hcd) hx he hs) fun D σ H h => ?_
  obtain ⟨F, env, br, h⟩ := h
  unfold sPutD putGo at h
  split at h
  · rename_i ks l e0
    refine tE_go br h fun p v F1 H1 _ e1 b1 rp h1 => ?_
    obtain ⟨a, vs, q1, _⟩ := br.ownD i ks l e0
    refine ⟨.ref a, q1, ?_⟩
    refine tE_go b1 h1 fun q w F2 H2 _ e2 b2 rq h2 => ?_
    obtain ⟨a2, vs2, q1', q2, q3, q4, q5, q6⟩ := b2.ownD i ks l e0
    rw [q1] at q1'
    cases q1'
    split at h2
    · rename_i k hk
      split at h2
      · rename_i hl
        have ew := keyP_rp rq hk
        subst ew
        refine ⟨a, _, rfl, DPut.k q4 (by rw [List.length_zip, q6, Nat.min_self]; exact Nat.lt_of_lt_of_le hl (by decide)), ?_⟩
        have rp2 := rp.mono e2.f
        unfold putD at h2
        split at h2
        · rename_i hsome
          obtain ⟨p0, hp0⟩ := Option.isSome_iff_exists.mp hsome
          obtain ⟨v0, g1, _⟩ := lookK_some q5 hp0
          obtain ⟨ws, w1, w2, w3⟩ := putK_old (k := k) q5 q6 rp2
          have ep : putK (ks.zip vs2) k v = ks.zip ws := by
            unfold putK
            rw [if_pos (any_some g1), w1]
          rw [ep]
          exact h2 F2 _ _ (Same.refl F2) (b2.changeO (d2 := some ks) e0 q1 w2 w3)
        · rename_i hsome
          have hn : lookK ks l k = none := by
            cases q : lookK ks l k with
            | none => rfl
            | some z => rw [q] at hsome; exact absurd rfl hsome
          have ep : putK (ks.zip vs2) k v = (ks ++ [k]).zip (vs2 ++ [v]) := by
            rw [putK_new v (lookK_none q5 q6 hn), List.zip_append (by rw [q6])]
            rfl
          rw [ep]
          exact h2 F2 _ _ (Same.refl F2) (b2.changeO (d2 := some (ks ++ [k])) e0 q1 (q5.app (Rps.one rp2)) (by show _ = _; simp [q6]))
      · exact h2.elim
    · exact h2.elim
  · exact h.elim
theorem se_getD (i : Nat) {x : Str} (hu : X.A.units + 64 < cLine) (hx : PE X ix (tE X G W fi)) (hi : X.N[i]? = some x := by rfl) (hv : Vis X.env.scope x := by first | exact Or.inl rfl | exact Or.inr (Or.inl rfl) | exact Or.inr (Or.inr rfl)) (hd : (x == ("__debug__" : Str)) = false := by decide)
    (hcd : (x == ("__classdict__" : Str)) = false := by decide) (hs : NoSl ix := by exact fun _ _ => rfl) : PE X (.Subscript (.Name x p1) ix pos) (tE X G W (eGetD i fi)) := by
  refine PE_mono (pe_dget (by omega) (pe_var hi hv hd hcd) hx hs) fun σ H Q h => ?_
  obtain ⟨F, env, br, h⟩ := h
  unfold eGetD getGo at h
  split at h
  · rename_i ks l e0
    obtain ⟨a, vs, q1, _⟩ := br.ownD i ks l e0
    refine ⟨.ref a, q1, ?_⟩
    refine tE_bind br h fun q w F2 H2 _ e2 b2 rq h2 => ?_
    obtain ⟨a2, vs2, q1', q2, q3, q4, q5, q6⟩ := b2.ownD i ks l e0
    rw [q1] at q1'
    cases q1'
    split at h2
    · rename_i k hk
      split at h2
      · rename_i p hp
        have ew := keyP_rp rq hk
        subst ew
        obtain ⟨v, g1, g2⟩ := lookK_some q5 hp
        exact ⟨a, v, rfl, by have := DGet.k (k := k) q4; rw [g1] at this; exact this, h2 F2 H2 v (Ext.refl b2.w) g2⟩
      · exact h2.elim
    · exact h2.elim
  · rename_i ks l e0
    obtain ⟨v0, q1, rv⟩ := br.val i _ e0
    obtain ⟨a, us, rfl, g1, g2, g3⟩ := rp_dct.mp rv
    refine ⟨.ref a, q1, ?_⟩
    refine tE_bind br h fun q w F2 H2 _ e2 b2 rq h2 => ?_
    split at h2
    · rename_i k hk
      split at h2
      · rename_i p hp
        have ew := keyP_rp rq hk
        subst ew
        obtain ⟨v, k1, k2⟩ := lookK_some (g3.mono e2.f) hp
        have hH := b2.w _ _ (e2.f _ _ g1)
        exact ⟨a, v, rfl, by have := DGet.k (k := k) hH; rw [k1] at this; exact this, h2 F2 H2 v (Ext.refl b2.w) k2⟩
      · exact h2.elim
    · exact h2.elim
  · exact h.elim
theorem se_ixD (hu : X.A.units + 64 < cLine) (ha : PE X a (tE X G W fa)) (hb : PE X b (tE X G W fb)) (hs : NoSl b := by exact fun _ _ => rfl) : PE X (.Subscript a b pos) (tE X G W (e2 gIxD fa fb)) := by
  refine PE_mono (pe_dget (by omega) ha hb hs) fun σ H Q h => ?_
  obtain ⟨F, env, br, h⟩ := h
  refine tE_bind br h fun p v F1 H1 _ e1 b1 rp h1 => ?_
  refine tE_bind b1 h1 fun q u F2 H2 _ e2 b2 rq h2 => ?_
  unfold gIxD at h2
  split at h2
  · rename_i ks l
    split at h2
    · rename_i k hk
      split at h2
      · rename_i p hp
        have ew := keyP_rp rq hk
        subst ew
        obtain ⟨a, us, rfl, g1, g2, g3⟩ := rp_dct.mp (rp.mono e2.f)
        obtain ⟨v, k1, k2⟩ := lookK_some g3 hp
        have hH := b2.w _ _ g1
        exact ⟨a, v, rfl, by have := DGet.k (k := k) hH; rw [k1] at this; exact this, h2 F2 H2 v (Ext.refl b2.w) k2⟩
      · exact h2.elim
    · exact h2.elim
  · exact h2.elim
end
/-! ### list(d.values()) -/
def tListVals (td : TE) : TE := fun σ H Q => td σ H fun x H1 => ∃ a kvs, x = V.ref a ∧ Rd H1 a (.dK kvs) ∧ ∀ q, H1 q = none → Q (.ref q) (upd H1 q (.lst (kvs.map (·.2))))
theorem pe_listVals {X : Cx} {o : Expr} {td : TE} {p pos apos mpos : Pos} (hc : X.calm = true) (hg : Gl X "list") (hm : X.mg "list" = none) (hd : PE X o td) (hbase : attributeBase o "values" X.env (eval o X.env) = eval o X.env := by rfl) (hline : (apos.endLine == mpos.line) = true := by rfl)
    (hs : starEach [Expr.Call (.Attribute o "values" apos) [] [] mpos] X.env = (false, eval (Expr.Call (.Attribute o "values" apos) [] [] mpos) X.env) :: starEach [] X.env := by rfl) :
    PE X (.Call (.Name "list" p) [.Call (.Attribute o "values" apos) [] [] mpos] [] pos) (tListVals td) := by
  refine ⟨fun pins s σ H Q I h => ?_⟩
  refine Call_ (ld_blt I hg hm boot_list (PyProof.Rows.callWith_type1 (args_cons ?_ hs) hs rfl))
  refine wpAny_Call_method0_late hbase hline (thn (hd.run pins s σ H _ I h) fun v s1 ⟨x, H1, I1, r1, a, kvs, ex, ha, q⟩ => ?_)
  subst ex
  obtain rfl : v = Value.ref a := r1
  obtain ⟨z, hsys, vs, rel, dof⟩ := dk_rd I1.hok ha
  obtain ⟨ep, dat⟩ := dof.dictAt
  have dat' := dat
  obtain ⟨ob, es, ho, ex, hdat, hko, hpr, hnd⟩ := dat'
  refine ⟨"dict", "dict.values", PySem.F.plainAttrs_dict, PySem.F.slot_dict_values, PySem.F.type_dict_values, ⟨ob, ho, ex.1⟩, fun b e => ?_, Calls.callWith_builtin rfl (PySem.evalArgs_none ?_)⟩
  · cases e
    exact ⟨ob, ho, ex.2.1⟩
  refine call_meetsIn PySem.F.slot_dict_values ⟨ob, ho, ex.1⟩ PySem.F.entry_dict_values (PySem.F.args_dict_values_1 _) (meets_dict_values (mixKind X.prog X.w) a hsys) ⟨⟨vs, dof⟩, ?_⟩
  refine args_nil ?_
  have k1 : ∀ b u, s1.heap.get? b = some u → (s1.heap.push { cls := .type "dict_values", data := .fields #[.ref a] }).get? b = some u := fun b u e => Heap.get?_push_of_some _ e
  have dat1 : (s1.heap.push { cls := .type "dict_values", data := .fields #[.ref a] }).DictAt (mixKind X.prog X.w) a vs ep := dat.keep k1
  have I2 : Inv X pins σ H1 { s1 with heap := s1.heap.push { cls := .type "dict_values", data := .fields #[.ref a] } } := I1.kept (t' := s1.toks) k1
  have hl : kvs.length = vs.length := rel.length
  refine PySem.W.kdl_call (s := { s1 with heap := s1.heap.push { cls := .type "dict_values", data := .fields #[.ref a] } }) (PySem.W.kdl_values (knd := mixKind X.prog X.w) (kvs := vs) (ep := ep) (r := s1.heap.objs.size) (d := a)) (I.ok.hd hc) ⟨⟨_, Heap.get?_push_size _ rfl, rfl, rfl⟩, dat1⟩ (by rw [← hl]; exact z) fun h' tk acc' c' hkeep hS hacc => ?_
  refine ⟨.ref _, upd H1 _ (.lst (kvs.map (·.2))), I2.laid hkeep (Nat.le_refl _) (show ObjOk X.prog X.w _ _ _ (.lst (kvs.map (·.2))) from ⟨?_, acc'.toList, c', ?_, ?_⟩), rfl, q _ (I2.hok.fresh (Nat.le_refl _))⟩
  · rw [List.length_map]; exact z
  · have el : acc'.toList.length = acc'.size := by simp
    refine vals_of_at (by rw [List.length_map, el, hacc.1, hl]) fun j x w h1 h2 => ?_
    obtain ⟨k, hky⟩ := hacc.2 j w (by rw [← Array.getElem?_toList]; exact h2)
    obtain ⟨y, e1, e2⟩ := KV.at' rel hky
    rw [List.getElem?_map, e1] at h1
    cases h1
    exact e2
  · rw [Array.toArray_toList]; exact hS
def gVals : PV → R
  | .dct ks l => .ok (.lst l)
  | _ => .fail
theorem zip_snd : ∀ {ks : List Key} {us : List V}, us.length = ks.length → (ks.zip us).map (·.2) = us
  | [], [], _ => rfl
  | k :: ks, u :: us, h => by rw [List.zip_cons_cons, List.map_cons, zip_snd (by simpa using h)]
  | [], _ :: _, h => by cases h
  | _ :: _, [], h => by cases h
theorem zip_fst : ∀ {ks : List Key} {us : List V}, us.length = ks.length → (ks.zip us).map (·.1) = ks
  | [], [], _ => rfl
  | k :: ks, u :: us, h => by rw [List.zip_cons_cons, List.map_cons, zip_fst (by simpa using h)]
  | [], _ :: _, h => by cases h
  | _ :: _, [], h => by cases h
section
variable {X : Cx} {G : Hp × Hp} {W : WX} {o : Expr} {f : Lo → R} {p pos apos mpos : Pos}
theorem se_listVals (hc : X.calm = true) (hg : Gl X "list") (hm : X.mg "list" = none) (hd : PE X o (tE X G W f)) (hbase : attributeBase o "values" X.env (eval o X.env) = eval o X.env := by rfl) (hline : (apos.endLine == mpos.line) = true := by rfl)
    (hs : starEach [Expr.Call (.Attribute o "values" apos) [] [] mpos] X.env = (false, eval (Expr.Call (.Attribute o "values" apos) [] [] mpos) X.env) :: starEach [] X.env := by rfl) :
    PE X (.Call (.Name "list" p) [.Call (.Attribute o "values" apos) [] [] mpos] [] pos) (tE X G W (e1 gVals f)) := by
  refine PE_mono (pe_listVals hc hg hm hd hbase hline hs) fun σ H Q h => ?_
  obtain ⟨F, env, br, h⟩ := h
  refine tE_bind br h fun q v F1 H1 _ e1 b1 rp h1 => ?_
  unfold gVals at h1
  split at h1
  · rename_i ks l
    obtain ⟨a, us, rfl, g1, g2, g3⟩ := rp_dct.mp rp
    refine ⟨a, _, rfl, .inl (b1.w _ _ g1), fun c hc => ?_⟩
    rw [zip_snd g2]
    have ex : Ext F1 H1 (upd F1 c (.lst us)) (upd H1 c (.lst us)) := Ext.new b1.w hc
    exact h1 _ _ _ ex (rp_lst.mpr ⟨c, _, rfl, .inl (.inl upd_same), g3.mono ex.f⟩)
  · exact h1.elim
end
theorem sNewD_app {env : Lo} {i : Nat} : sNewD i env = .nx (env.set i (Slot.owd [] [])) := nrfl
theorem sPutD_app {env : Lo} {i : Nat} {fk f : Lo → R} : sPutD i fk f env = putGo env[i]? (f env) (fk env) env i := nrfl
theorem eGetD_app {env : Lo} {i : Nat} {fk : Lo → R} : eGetD i fk env = getGo env[i]? (fk env) := nrfl
theorem putGo_ok {env : Lo} {i : Nat} {ks : List Key} {l : List PV} {p q : PV} {k : Key} (h : keyP q = some k) (hl : ks.length + 1 ≤ 100000) : putGo (some (Slot.owd ks l)) (.ok p) (.ok q) env i = .nx (env.set i (putD ks l k p)) := by
  unfold putGo
  simp only [R.go_ok, h]
  rw [if_pos hl]
theorem getGo_own {ks : List Key} {l : List PV} {p q : PV} {k : Key} (h : keyP q = some k) (h2 : lookK ks l k = some p) : getGo (some (Slot.owd ks l)) (.ok q) = .ok p := by
  unfold getGo
  simp only [R.bind_ok, h, h2]
theorem getGo_val {ks : List Key} {l : List PV} {p q : PV} {k : Key} (h : keyP q = some k) (h2 : lookK ks l k = some p) : getGo (some (Slot.val (.dct ks l))) (.ok q) = .ok p := by
  unfold getGo
  simp only [R.bind_ok, h, h2]
theorem gIxD_ok {ks : List Key} {l : List PV} {p q : PV} {k : Key} (h : keyP q = some k) (h2 : lookK ks l k = some p) : gIxD (.dct ks l) q = .ok p := by
  unfold gIxD
  simp only [h, h2]
theorem gVals_dct {ks : List Key} {l : List PV} : gVals (.dct ks l) = .ok (.lst l) := nrfl
end Nf

/-! ### list(reversed(a list)) -/
namespace Nf
open PySem PySem.Spec PyProof.Rows L2
section
variable {prog : Program} {w : World} {A : Around} {E : Value → Shared → Prop} {s : Shared}
theorem hint_rev {it l : Addr} {i : Int} {Q : Bool → Shared → Prop} (hit : s.heap.IsRevIter it l i) (h : Q false s) : wpAny (model prog w) A (Builtin.List.listLengthHint (.ref it)) Q E s := by
  have ty : s.TypeIs (.ref it) "list_reverseiterator" := hit.typeIs
  unfold Builtin.List.listLengthHint
  refine wpAny_bind (wpAny_specialOf ty RT.nolen_lri ?_)
  show wpAny _ A (specialOf (Value.ref it) (Str.ofString "__length_hint__") >>= _) _ _ _
  refine wpAny_bind (wpAny_specialOf ty RT.hint_lri ?_)
  generalize hid : ("list_reverseiterator.__length_hint__" : String) = id0
  wp_delta
  rw [show splitId id0 = some ("list_reverseiterator", "__length_hint__") from by subst hid; decide +kernel]
  subst hid
  refine wpAny_bind (wpAny_isInstance (b := true) ty (by rw [isSubtype_type]; kernel_rfl) ?_)
  exact wpAny_pure h
theorem ext_rev {R : Result → Shared → Prop} {it l S : Addr} {items : Array Value} (hh : A.handled = none) (hit : s.heap.IsRevIter it l ((items.size : Int) - 1)) (hl : s.heap.IsList l items) (hne : l ≠ it) (hn : items.size ≤ sizeLine) (n1 : S ≠ it) (n2 : S ≠ l) (res : Value) (c₀ : Nat)
    (hS : s.heap.get? S = some { cls := .type "list", data := .seq #[] c₀ })
    (hR : ∀ h' tk acc' c', (∀ b o, b ≠ S → b ≠ it → s.heap.get? b = some o → h'.get? b = some o) → h'.get? S = some { cls := .type "list", dict := none, data := .seq acc' c', slots := #[] } → ItemsOf (fun i v => items[items.size - 1 - i]? = some v) acc' items.size → R (.ok (.ret res)) { s with heap := h', toks := tk }) :
    wpAny (model prog w) A.in1 (Builtin.List.listExtendWith (.ref S) (.ref it) res)
      (fun fin s' => match fin with | .done f => R (.ok f) s' | .again c' => c'.quiet = true ∧ codeAny (model prog w) A c' R s') (fun e s' => R (.error e) s') s := by
  have nf : S ∉ [it, l] := by simp only [List.mem_cons, List.not_mem_nil, or_false, not_or]; exact ⟨n1, n2⟩
  have W := (Walks.listRev (prog := prog) (w := w) (A := A.in1) hh it l hne items).toS
  have e0 : ((items.size : Nat) : Int) - 1 - ((0 : Nat) : Int) = (items.size : Int) - 1 := by omega
  have start : ∀ (h : Heap) (c₁ tk : Nat), h.IsRevIter it l ((items.size : Int) - 1) → h.IsList l items → (∀ b o, b ≠ S → s.heap.get? b = some o → h.get? b = some o) →
      h.get? S = some { cls := .type "list", data := .seq #[] c₁ } → codeAny (model prog w) A (.builtin "list.extend.loop" ⟨[.ref S, .ref it, res], []⟩) R { s with heap := h, toks := tk } := by
    intro h c₁ tk i1 l1 keep s1
    refine codeAny_extend_loopS W hn S nf res items.size 0 _ #[] c₁ rfl (Nat.zero_le _) ⟨Nat.zero_le _, by rw [e0]; exact i1, l1⟩ s1 (ItemsOf.nil _) fun s' acc' c' hm hS' hacc => ?_
    rw [Moved.eq_with hm]
    refine hR s'.heap s'.toks acc' c' (fun b o hb hi e => hm.heap b o (fun hmem => ?_) (keep b o hb e)) hS' hacc
    rcases List.mem_cons.mp hmem with e' | hmem
    · exact hb e'
    · exact hi (List.mem_singleton.mp hmem)
  unfold Builtin.List.listExtendWith
  refine wpAny_bind (wpAny_typeOf (T := "list_reverseiterator") hit.typeIs ?_)
  have h1 : Builtin.List.listSameRef (.ref S) (.ref it) = false := by simp [Builtin.List.listSameRef, n1]
  have h2 : (Value.type "list_reverseiterator" == Value.type "list") = false := by decide
  have h3 : (Value.type "list_reverseiterator" == Value.type "tuple") = false := by decide
  simp only [h1, h2, h3, Bool.or_false, Bool.false_eq_true, if_false]
  refine wpAny_bind (wpAny_pyIter_revIter hit ?_)
  refine wpAny_bind (wpAny_holding (hint_rev hit ?_))
  refine wpAny_ite_split (fun _ => ?_) (fun _ => wpAny_pure ⟨plainId_quiet PySem.F.plain_extend_loop _, start _ c₀ _ hit hl (fun b o _ e => e) hS⟩)
  refine wpAny_bind (wpAny_rule ?_)
  refine wpAny_bind ?_
  show wpAny _ _ (updateSeq S (·.push .none) >>= fun _ => updateSeq S (·.pop)) _ _ _
  refine wpAny_bind (wpAny_updateSeq hS rfl ?_)
  have b2 := Heap.get?_update_self (Obj.mapSeq (·.push Value.none)) hS rfl
  refine wpAny_updateSeq (hz := by seq_fits) b2 rfl ?_
  have b3 := Heap.get?_update_self (Obj.mapSeq (·.pop)) b2 rfl
  have oth : ∀ b o, b ≠ S → s.heap.get? b = some o → ((s.heap.update S (Obj.mapSeq (·.push Value.none))).update S (Obj.mapSeq (·.pop))).get? b = some o :=
    fun b o hb e => (Heap.get?_update_other _ _ (Ne.symm hb)).trans ((Heap.get?_update_other _ _ (Ne.symm hb)).trans e)
  obtain ⟨ol, ho, hx⟩ := id hl
  exact wpAny_pure ⟨plainId_quiet PySem.F.plain_extend_loop _, start _ _ _ (hit.at fun o e => oth it o (Ne.symm n1) e) ⟨ol, oth l ol (Ne.symm n2) ho, hx⟩ oth b3⟩
theorem init_rev {R : Result → Shared → Prop} {it l S : Addr} {items : Array Value} (hh : A.handled = none) (hit : s.heap.IsRevIter it l ((items.size : Int) - 1)) (hl : s.heap.IsList l items) (hne : l ≠ it) (hn : items.size ≤ sizeLine) (n1 : S ≠ it) (n2 : S ≠ l)
    (hS : s.heap.get? S = some { cls := .type "list", data := .seq #[] })
    (hR : ∀ h' tk acc' c', (∀ b o, b ≠ S → b ≠ it → s.heap.get? b = some o → h'.get? b = some o) → h'.get? S = some { cls := .type "list", dict := none, data := .seq acc' c', slots := #[] } → ItemsOf (fun i v => items[items.size - 1 - i]? = some v) acc' items.size → R (.ok (.ret .none)) { s with heap := h', toks := tk }) :
    wpAny (model prog w) A.in1 (Builtin.«list.__init__» ⟨[.ref S, .ref it], []⟩)
      (fun fin s' => match fin with | .done f => R (.ok f) s' | .again c' => c'.quiet = true ∧ codeAny (model prog w) A c' R s') (fun e s' => R (.error e) s') s := by
  show wpAny _ _ (do let old ← Builtin.List.listItems (.ref S); Builtin.List.listUpdate (.ref S) (fun _ => #[]); letGo old.toList.reverse; Builtin.List.listExtendWith (.ref S) (.ref it) .none) _ _ s
  refine wpAny_bind ?_
  unfold Builtin.List.listItems
  refine wpAny_bind (wpAny_seqItems hS rfl (wpAny_pure ?_))
  show wpAny _ _ (updateSeq S (fun _ => #[]) >>= fun _ => letGo (#[] : Array Value).toList.reverse >>= fun _ => Builtin.List.listExtendWith (.ref S) (.ref it) .none) _ _ s
  refine wpAny_bind (wpAny_updateSeq hS rfl ?_)
  have b2 := Heap.get?_update_self (Obj.mapSeq (fun _ => (#[] : Array Value))) hS rfl
  have oth : ∀ b o, b ≠ S → s.heap.get? b = some o → (s.heap.update S (Obj.mapSeq (fun _ => (#[] : Array Value)))).get? b = some o :=
    fun b o hb e => (Heap.get?_update_other _ _ (Ne.symm hb)).trans e
  refine wpAny_bind (wpAny_letGo ?_)
  obtain ⟨ol, ho, hx⟩ := id hl
  refine ext_rev hh (hit.at fun o e => oth it o (Ne.symm n1) e) ⟨ol, oth l ol (Ne.symm n2) ho, hx⟩ hne hn n1 n2 .none _ b2 fun h' tk acc' c' keep s1 hacc => ?_
  exact hR h' tk acc' c' (fun b o hb hi e => keep b o hb hi (oth b o hb e)) s1 hacc
theorem call_list_rev {it l : Addr} {items : Array Value} {Q : Value → Shared → Prop} (hh : A.handled = none) (hit : s.heap.IsRevIter it l ((items.size : Int) - 1)) (hl : s.heap.IsList l items) (hne : l ≠ it) (hn : items.size ≤ sizeLine)
    (hQ : ∀ h' tk acc' c', (∀ b o, b ≠ it → s.heap.get? b = some o → h'.get? b = some o) → h'.get? s.heap.objs.size = some { cls := .type "list", dict := none, data := .seq acc' c', slots := #[] } → ItemsOf (fun i v => items[items.size - 1 - i]? = some v) acc' items.size → Q (.ref s.heap.objs.size) { s with heap := h', toks := tk }) :
    wpAny (model prog w) A (call (.type "list") [.ref it]) Q E s := by
  refine callType_codes (Q₁ := fun obj s₁ => obj = .ref s.heap.objs.size ∧ s₁ = { s with heap := s.heap.push { cls := .type "list", data := .seq #[] } }) PySem.F.called_list (PySem.F.typeCall_list_1 _) PySem.F.entry_list_init
    (code_list_new _ ⟨rfl, rfl⟩) fun obj s₁ h₁ => ?_
  obtain ⟨rfl, rfl⟩ := h₁
  have hS : (s.heap.push { cls := .type "list", data := .seq #[] }).get? s.heap.objs.size = some { cls := .type "list", data := .seq #[] } := Heap.get?_push_size _ rfl
  obtain ⟨oi, hoi, _⟩ := id hit
  obtain ⟨ol, hol, _⟩ := id hl
  refine ⟨⟨_, hS, rfl⟩, PySem.F.args_list_init_2 _ _, init_rev (A := A.in1) hh (hit.at fun o e => Heap.get?_push_of_some _ e) (hl.push _) hne hn (Nat.ne_of_gt (Heap.lt_size hoi)) (Nat.ne_of_gt (Heap.lt_size hol)) hS fun h' tk acc' c' keep s1 hacc => ?_⟩
  exact ⟨rfl, hQ h' tk acc' c' (fun b o hb e => keep b o (Nat.ne_of_lt (Heap.lt_size e)) hb (Heap.get?_push_of_some _ e)) s1 hacc⟩
end
def tListRev (K : PySem.W.Frag) (te : TE) : TE := fun σ H Q => te σ H fun v H1 => ∃ (a : Addr) (xs : List V), v = .ref a ∧ SqL K H1 a xs ∧ ∀ q, H1 q = none → Q (.ref q) (upd H1 q (.lst xs.reverse))
section
variable {X : Cx} {e : Expr} {p p2 pos pos2 : Pos}
theorem pe_listRev {te : TE} (hc : X.calm = true) (hg : Gl X "list") (hm : X.mg "list" = none) (hg2 : Gl X "reversed") (hm2 : X.mg "reversed" = none) (he : PE X e te)
    (hs : starEach [e] X.env = (false, eval e X.env) :: starEach [] X.env := by rfl)
    (hs2 : starEach [.Call (.Name "reversed" p2) [e] [] pos2] X.env = (false, eval (.Call (.Name "reversed" p2) [e] [] pos2) X.env) :: starEach [] X.env := by rfl) :
    PE X (.Call (.Name "list" p) [.Call (.Name "reversed" p2) [e] [] pos2] [] pos) (tListRev X.K te) := by
  refine ⟨fun pins s σ H Q I h => ?_⟩
  refine Call_ (ld_blt I hg hm boot_list (PyProof.Rows.callWith_type1 (args_cons (Call_ (ld_blt I hg2 hm2 PyProof.Rows.boot_reversed (PyProof.Rows.callWith_type1 (args_cons (thn (he.run pins s σ H _ I h) fun u s1 ⟨v, H1, I1, r1, q1⟩ => args_nil ?_) hs) hs rfl))) hs2) hs2 rfl))
  obtain ⟨a, xs, ev, hq, q⟩ := q1
  subst ev
  obtain rfl : u = Value.ref a := r1
  obtain ⟨its, rv, p', hz⟩ := I1.list hq
  refine call_reversed_list p'.isList (args_nil ?_)
  have k0 : ∀ b o, s1.heap.get? b = some o → (s1.heap.push (revObj a ((its.toArray.size : Int) - 1))).get? b = some o := fun b o e => Heap.get?_push_of_some _ e
  have I2 : Inv X pins σ H1 { s1 with heap := s1.heap.push (revObj a ((its.toArray.size : Int) - 1)) } := I1.kept (t' := s1.toks) k0
  obtain ⟨f0, f1, f2, f3, f4, f5⟩ := I1.fpOk (H' := H1) (b := s1.heap.objs.size) (Nat.le_refl _) (I1.hok.fresh (Nat.le_refl _))
  have hl := p'.isList
  obtain ⟨ol, hol, _⟩ := id hl
  have hne : a ≠ s1.heap.objs.size := Nat.ne_of_lt (Heap.lt_size hol)
  have hn : its.toArray.size ≤ sizeLine := by rw [List.size_toArray, ← rv.length]; exact hz
  refine call_list_rev (s := { s1 with heap := s1.heap.push (revObj a ((its.toArray.size : Int) - 1)) }) (I1.ok.hd hc) ⟨_, Heap.get?_push_size _ rfl, rfl, rfl⟩ (hl.push _) hne hn fun h' tk acc c' hk hS hi => ?_
  have I3 : Inv X pins σ H1 { s1 with heap := h', toks := tk } := I2.turned (t' := tk) (fun b o hb e => hk b o hb e) f0 f1 f3 f4 f5
  have hm : H1 (s1.heap.push (revObj a ((its.toArray.size : Int) - 1))).objs.size = none := I2.hok.fresh (Nat.le_refl _)
  have keepA : ∀ b o, b ≠ s1.heap.objs.size → (s1.heap.push (revObj a ((its.toArray.size : Int) - 1))).get? b = some o → h'.get? b = some o := hk
  refine ⟨.ref _, upd H1 _ (.lst xs.reverse), ?_, rfl, q _ hm⟩
  have ok : ObjOk X.prog X.w (upd H1 (s1.heap.push (revObj a ((its.toArray.size : Int) - 1))).objs.size (.lst xs.reverse)) h' (s1.heap.push (revObj a ((its.toArray.size : Int) - 1))).objs.size (.lst xs.reverse) :=
    ⟨by rw [List.length_reverse]; exact hz, acc.toList, c', RT.vals_rev rv hi, by rw [Array.toArray_toList]; exact hS⟩
  exact I2.turnedNew (ch := [s1.heap.objs.size]) (fun b o hb e => hk b o (fun z => hb (by simp [z])) e) (fun b hb => by
    obtain rfl : b = s1.heap.objs.size := by simpa using hb
    exact I1.fpOk (H' := H1) (Nat.le_refl _) (I1.hok.fresh (Nat.le_refl _))) (Nat.le_refl _) ok
end
section
variable {X : Cx} {G : Hp × Hp} {W : WX} {e : Expr} {es : List Expr} {f : Lo → R} {fl : Lo → RL} {p p2 pos pos2 : Pos}
theorem se_listRev (hc : X.calm = true) (hg : Gl X "list") (hm : X.mg "list" = none) (hg2 : Gl X "reversed") (hm2 : X.mg "reversed" = none) (he : PE X e (tE X G W f))
    (hs : starEach [e] X.env = (false, eval e X.env) :: starEach [] X.env := by rfl)
    (hs2 : starEach [.Call (.Name "reversed" p2) [e] [] pos2] X.env = (false, eval (.Call (.Name "reversed" p2) [e] [] pos2) X.env) :: starEach [] X.env := by rfl) :
    PE X (.Call (.Name "list" p) [.Call (.Name "reversed" p2) [e] [] pos2] [] pos) (tE X G W (e1 gRevL f)) := by
  refine PE_mono (pe_listRev hc hg hm hg2 hm2 he hs hs2) fun σ H Q h => ?_
  obtain ⟨F, env, br, h⟩ := h
  refine tE_bind br h fun p v F1 H1 _ e1 b1 rp h1 => ?_
  unfold gRevL at h1
  split at h1
  · rename_i l
    obtain ⟨a, vs, rfl, g1, g2⟩ := rp_lst.mp rp
    refine ⟨a, vs, rfl, sql_mono b1.w g1, fun c hc => ?_⟩
    have ex : Ext F1 H1 (upd F1 c (.lst vs.reverse)) (upd H1 c (.lst vs.reverse)) := Ext.new b1.w hc
    exact h1 _ _ _ ex (rp_lst.mpr ⟨c, _, rfl, .inl (.inl upd_same), g2.rev.mono ex.f⟩)
  · exact h1.elim
/-! ### sorted(a list of ints) -/
def insI (x : Int) : List Int → List Int
  | [] => [x]
  | y :: r => if x ≤ y then x :: y :: r else y :: insI x r
def srtI : List Int → List Int
  | [] => []
  | x :: r => insI x (srtI r)
theorem insI_perm (x : Int) : ∀ l, (insI x l).Perm (x :: l)
  | [] => .refl _
  | y :: r => by
    unfold insI
    split
    · exact .refl _
    · exact ((insI_perm x r).cons y).trans (.swap x y r)
theorem srtI_perm : ∀ l, (srtI l).Perm l
  | [] => .refl _
  | x :: r => (insI_perm x (srtI r)).trans ((srtI_perm r).cons x)
theorem insI_pw (x : Int) : ∀ l : List Int, l.Pairwise (· ≤ ·) → (insI x l).Pairwise (· ≤ ·)
  | [], _ => List.pairwise_singleton _ _
  | y :: r, h => by
    rw [List.pairwise_cons] at h
    unfold insI
    split
    · rename_i hx
      rw [List.pairwise_cons]
      refine ⟨fun z hz => ?_, List.pairwise_cons.mpr h⟩
      rcases List.mem_cons.mp hz with rfl | hz
      · exact hx
      · exact Int.le_trans hx (h.1 z hz)
    · rename_i hx
      rw [List.pairwise_cons]
      refine ⟨fun z hz => ?_, insI_pw x r h.2⟩
      rcases List.mem_cons.mp ((insI_perm x r).mem_iff.mp hz) with rfl | hz
      · omega
      · exact h.1 z hz
theorem srtI_pw : ∀ l, (srtI l).Pairwise (· ≤ ·)
  | [] => .nil
  | x :: r => insI_pw x _ (srtI_pw r)
theorem pw_eq : ∀ {l m : List Int}, l.Perm m → l.Pairwise (· ≤ ·) → m.Pairwise (· ≤ ·) → l = m
  | [], m, h, _, _ => by rw [List.nil_perm.mp h]
  | x :: l, [], h, _, _ => by have := h.length_eq; simp at this
  | x :: l, y :: m, h, h1, h2 => by
    rw [List.pairwise_cons] at h1 h2
    have a : x ∈ y :: m := h.mem_iff.mp List.mem_cons_self
    have b : y ∈ x :: l := h.mem_iff.mpr List.mem_cons_self
    have e : x = y := by
      rcases List.mem_cons.mp a with a | a
      · exact a
      · rcases List.mem_cons.mp b with b | b
        · exact b.symm
        · exact Int.le_antisymm (h1.1 y b) (h2.1 x a)
    subst e
    rw [pw_eq ((List.perm_cons x).mp h) h1.2 h2.2]
def intsP : List PV → Option (List Int)
  | [] => some []
  | .int i :: r => (intsP r).map (i :: ·)
  | _ :: _ => none
theorem intsP_map : ∀ l : List Int, intsP (l.map PV.int) = some l
  | [] => rfl
  | i :: r => by rw [List.map_cons]; unfold intsP; rw [intsP_map r]; rfl
theorem intsP_eq : ∀ {l : List PV} {ns : List Int}, intsP l = some ns → l = ns.map PV.int
  | [], ns, h => by cases h; rfl
  | p :: r, ns, h => by
    cases p with
    | int i =>
      unfold intsP at h
      obtain ⟨m, h1, rfl⟩ := Option.map_eq_some_iff.mp h
      rw [List.map_cons, ← intsP_eq h1]
    | non => cases h
    | bl _ => cases h
    | str _ => cases h
    | tup _ => cases h
    | lst _ => cases h
    | ins _ => cases h
    | exn _ _ => cases h
    | dct _ _ => cases h
theorem rps_intsE {K : PySem.W.Frag} {mg : Str → Option Value} {F : Hp} : ∀ {ns : List Int} {vs : List V}, Rps K mg F (ns.map PV.int) vs → vs = ns.map V.int
  | [], vs, h => by simpa only [List.map_nil, Rps] using h
  | n :: ns, vs, h => by
    simp only [List.map_cons, Rps] at h
    obtain ⟨v, r, rfl, h1, h2⟩ := h
    rw [rp_int.mp h1, rps_intsE h2]
    rfl
def gSorted : List PV → R
  | [.lst l] => (match intsP l with
    | some ns => .ok (.lst ((srtI ns).map .int))
    | none => .fail)
  | _ => .fail
theorem callG_sorted {X : Cx} : CallG X (rSortedI X.K) gSorted := by
  intro W F H Q ps vs w rp h
  unfold gSorted at h
  split at h
  · rename_i l
    obtain ⟨v, rfl, r⟩ := rps1 rp
    obtain ⟨a, us, rfl, h1, h2⟩ := rp_lst.mp r
    split at h
    · rename_i ns e
      have el := intsP_eq e
      subst el
      have eu := rps_intsE h2
      subst eu
      refine ⟨a, ns, rfl, sql_mono w h1, fun ns' c pm pw hc => ?_⟩
      have en : ns' = srtI ns := pw_eq (pm.trans (srtI_perm ns).symm) pw (srtI_pw ns)
      subst en
      have ex : Ext F H (upd F c (.lst ((srtI ns).map V.int))) (upd H c (.lst ((srtI ns).map V.int))) := Ext.new w hc
      exact h _ _ _ ex (rp_lst.mpr ⟨c, _, rfl, .inl (.inl upd_same), rps_ints _⟩)
    · exact h.elim
  · exact h.elim
theorem se_sorted (hgl : Gl X "sorted") (hm : X.mg "sorted" = none) (ha : PA X (e :: es) (tA X G W fl)) (he : starEach (e :: es) X.env = (false, eval e X.env) :: starEach es X.env := by rfl) (hpl : (backTo pos (starEach es X.env)).any (·.1) = false := by rfl) :
    PE X (.Call (.Name "sorted" p) (e :: es) [] pos) (tE X G W (eB gSorted fl)) := se_B cr_sortedI callG_sorted hgl hm (by decide +kernel) ha (by decide) (by decide) he hpl
/-! ### min(i, j, k), max(i, j, k), sum(ints) -/
def gMin3 : List PV → R
  | [.int i, .int j, .int k] => .ok (.int (min (min i j) k))
  | _ => .fail
theorem rps3 {K : PySem.W.Frag} {mg : Str → Option Value} {F : Hp} {p q r : PV} {vs : List V} (h : Rps K mg F [p, q, r] vs) : ∃ v u w, vs = [v, u, w] ∧ Rp K mg F p v ∧ Rp K mg F q u ∧ Rp K mg F r w := by
  simp only [Rps] at h
  obtain ⟨v, _, rfl, h1, u, _, rfl, h2, w, _, rfl, h3, rfl⟩ := h
  exact ⟨v, u, w, rfl, h1, h2, h3⟩
theorem callG_min3 {X : Cx} : CallG X (rNuC3 nuMin3) gMin3 := by
  intro W F H Q ps vs w rp h
  unfold gMin3 at h
  split at h
  · rename_i i j k
    obtain ⟨v, u, z, rfl, r1, r2, r3⟩ := rps3 rp
    have e1 := rp_int.mp r1
    have e2 := rp_int.mp r2
    have e3 := rp_int.mp r3
    subst e1 e2 e3
    refine ⟨_, _, _, .int (min (min i j) k), rfl, ?_, h F H _ (Ext.refl w) (rp_int.mpr rfl)⟩
    have a : ∀ x y : Int, nuMin2 (.int x) (.int y) = some (.int (min x y)) := fun x y => by
      show ((some (decide (y < x))).map fun c => if c = true then V.int y else V.int x) = _
      by_cases hh : y < x
      · simp [hh, Int.min_eq_right (Int.le_of_lt hh)]
      · simp [hh, Int.min_eq_left (Int.not_lt.mp hh)]
    unfold nuMin3
    rw [a]
    exact a _ _
  · exact h.elim
theorem se_min3 (hc : X.calm = true) (hgl : Gl X "min") (hm : X.mg "min" = none) (ha : PA X (e :: es) (tA X G W fl)) (he : starEach (e :: es) X.env = (false, eval e X.env) :: starEach es X.env := by rfl) (hpl : (backTo pos (starEach es X.env)).any (·.1) = false := by rfl) :
    PE X (.Call (.Name "min" p) (e :: es) [] pos) (tE X G W (eB gMin3 fl)) := se_B (call_min3Nu hc) callG_min3 hgl hm (by decide +kernel) ha (by decide) (by decide) he hpl
def gSum : List PV → R
  | [.lst l] => (match intsP l with
    | some ns => .ok (.int ns.sum)
    | none => .fail)
  | _ => .fail
theorem callG_sum {X : Cx} : CallG X (rSum X.K) gSum := by
  intro W F H Q ps vs w rp h
  unfold gSum at h
  split at h
  · rename_i l
    obtain ⟨v, rfl, r⟩ := rps1 rp
    obtain ⟨a, us, rfl, h1, h2⟩ := rp_lst.mp r
    split at h
    · rename_i ns e
      have el := intsP_eq e
      subst el
      have eu := rps_intsE h2
      subst eu
      exact ⟨a, ns, rfl, sql_mono w h1, h F H _ (Ext.refl w) (rp_int.mpr rfl)⟩
    · exact h.elim
  · exact h.elim
theorem se_sum (hc : X.calm = true) (hgl : Gl X "sum") (hm : X.mg "sum" = none) (ha : PA X (e :: es) (tA X G W fl)) (he : starEach (e :: es) X.env = (false, eval e X.env) :: starEach es X.env := by rfl) (hpl : (backTo pos (starEach es X.env)).any (·.1) = false := by rfl) :
    PE X (.Call (.Name "sum" p) (e :: es) [] pos) (tE X G W (eB gSum fl)) := se_B (cr_sum hc) callG_sum hgl hm (by decide +kernel) ha (by decide) (by decide) he hpl
/-! ### {text: text, ..}[x] -/
theorem putK_snoc {kvs : List (Key × V)} {k : Key} {v : V} (h : k ∉ kvs.map (·.1)) : putK kvs k v = kvs ++ [(k, v)] := by
  unfold putK
  rw [if_neg]
  intro e
  obtain ⟨x, hx, hk⟩ := List.any_eq_true.mp e
  exact h (List.mem_map.mpr ⟨x, hx, of_decide_eq_true hk⟩)
theorem merge_new : ∀ (more kvs : List (Key × V)), ((kvs ++ more).map (·.1)).Nodup → mergeK kvs more = kvs ++ more
  | [], kvs, _ => by rw [List.append_nil]; rfl
  | x :: more, kvs, h => by
    have hx : x.1 ∉ kvs.map (·.1) := by
      rw [List.map_append, List.map_cons, List.nodup_append] at h
      exact fun hm => h.2.2 x.1 hm x.1 List.mem_cons_self rfl
    show mergeK (putK kvs x.1 x.2) more = _
    rw [putK_snoc hx, merge_new more (kvs ++ [(x.1, x.2)]) (by rw [List.append_assoc]; exact h), List.append_assoc]
    rfl
def pairsT (kvs : List (Str × Str)) : List (TE × TE) := kvs.map fun q => (tC (.str q.1), tC (.str q.2))
theorem tPairs_c : ∀ (kvs : List (Str × Str)) (σ : L2.St) (H : Hp) (Q : List (V × V) → Hp → Prop), Q (kvs.map fun q => (V.str q.1, V.str q.2)) H → tPairs (pairsT kvs) σ H Q
  | [], _, _, _, h => h
  | q :: r, σ, H, Q, h => tPairs_c r σ H _ h
def dispP (kvs : List (Str × Str)) : PV := .dct (kvs.map fun q => Sum.inr q.1) (kvs.map fun q => .str q.2)
theorem rps_strs {K : PySem.W.Frag} {mg : Str → Option Value} {F : Hp} : ∀ l : List (Str × Str), Rps K mg F (l.map fun q => PV.str q.2) (l.map fun q => V.str q.2)
  | [] => by simp only [List.map_nil, Rps]
  | q :: r => by simp only [List.map_cons]; exact rps_cons (rp_str.mpr rfl) (rps_strs r)
theorem zip_strs : ∀ l : List (Str × Str), (l.map fun q => (Sum.inr q.1 : Key)).zip (l.map fun q => V.str q.2) = l.map fun q => (Sum.inr q.1, V.str q.2)
  | [] => rfl
  | q :: r => by simp only [List.map_cons, List.zip_cons_cons, zip_strs r]
theorem se_disp {keys : List (Option Expr)} {values : List Expr} (kvs : List (Str × Str)) (h : PPs X pos keys values (pairsT kvs)) (hall : keys.all (·.isSome) = true := by rfl) (hl : keys.length = values.length := by rfl) (h0 : keys ≠ [] := by exact fun z => nomatch z)
    (h15 : keys.length ≤ 15 := by decide) (hn : (kvs.map (·.1)).Nodup := by decide +kernel) (hk : kvs.length ≤ 15 := by decide) : PE X (.Dict keys values pos) (tE X G W (eC (dispP kvs))) := by
  refine PE_mono (pe_disp h hall hl h0 h15) fun σ H Q h => ?_
  obtain ⟨F, env, br, h⟩ := h
  intro c hc
  refine tPairs_c kvs σ _ _ ⟨upd_same, kvs.map (fun q => (Sum.inr q.1, V.str q.2)), ?_, by rw [List.length_map]; exact hk, ?_⟩
  · rw [List.map_map]
    rfl
  · rw [merge_new _ [] (by
      rw [List.nil_append, List.map_map]
      have e : ((fun x : Key × V => x.1) ∘ fun q : Str × Str => (Sum.inr q.1, V.str q.2)) = Sum.inr ∘ (·.1) := rfl
      rw [e, ← List.map_map]
      exact List.Pairwise.map _ (fun a b hab z => hab (Sum.inr.inj z)) hn), List.nil_append, upd_upd]
    have ex : Ext F H (upd F c (.dK (kvs.map fun q => (Sum.inr q.1, V.str q.2)))) (upd H c (.dK (kvs.map fun q => (Sum.inr q.1, V.str q.2)))) := Ext.new br.w hc
    refine h _ _ _ ex (rp_dct.mpr ⟨c, kvs.map fun q => V.str q.2, rfl, ?_, by simp, rps_strs kvs⟩)
    rw [zip_strs]
    exact upd_same
end
theorem gSorted_ints {ns : List Int} : gSorted [.lst (ns.map .int)] = .ok (.lst ((srtI ns).map .int)) := by
  unfold gSorted
  simp only [intsP_map]
theorem gSum_ints {ns : List Int} : gSum [.lst (ns.map .int)] = .ok (.int ns.sum) := by
  unfold gSum
  simp only [intsP_map]
theorem gMin3_int {i j k : Int} : gMin3 [.int i, .int j, .int k] = .ok (.int (min (min i j) k)) := nrfl
end Nf

namespace Nf
open PySem PySem.Spec PyProof.Rows L2
/-! ### a length or an item of a list of one's own, the list stays one's own -/
def plainP : PV → Bool
  | .non => true
  | .bl _ => true
  | .int _ => true
  | .str _ => true
  | _ => false
def eBor (i : Nat) (f : Lo → R) : Lo → R := fun env => match env[i]? with
  | some (.ow d l) => (match f (env.set i (Slot.val (frzOf d l))) with
    | .ok p => if plainP p = true then .ok p else .fail
    | _ => .fail)
  | _ => f env
section
variable {X : Cx} {G : Hp × Hp} {W : WX} {e : Expr} {f : Lo → R}
theorem plain_rp {K : PySem.W.Frag} {mg : Str → Option Value} {F F' : Hp} {p : PV} {v : V} (hp : plainP p = true) (h : Rp K mg F p v) : Rp K mg F' p v := by
  cases p with
  | non => exact rp_non.mpr (rp_non.mp h)
  | bl b => exact rp_bl.mpr (rp_bl.mp h)
  | int n => exact rp_int.mpr (rp_int.mp h)
  | str x => exact rp_str.mpr (rp_str.mp h)
  | _ => cases hp
theorem se_bor (i : Nat) (h : PE X e (tE X G W f)) : PE X e (tE X G W (eBor i f)) := PE_mono h fun σ H Q h => by
  obtain ⟨F, env, br, h⟩ := h
  unfold eBor at h
  split at h
  · rename_i d l e
    obtain ⟨F', sm, b'⟩ := br.freeze e
    refine ⟨F', _, b', ?_⟩
    cases ef : f (env.set i (Slot.val (frzOf d l))) with
    | ok p =>
      rw [ef] at h
      dsimp only at h
      split at h
      · rename_i hp
        intro F1 H1 v ex rv
        exact h F H1 v ⟨Same.refl F, ex.h, fun x o q => ex.h _ _ (br.w x o q), fun _ e _ => e⟩ (plain_rp hp rv)
      · exact h.elim
    | exc x => rw [ef] at h; exact h.elim
    | fail => rw [ef] at h; exact h.elim
  · exact ⟨F, env, br, h⟩
end
end Nf

namespace Nf
open PySem PySem.Spec PyProof.Rows L2
/-! ### raise C(e), C an exception class whose own __init__ keeps its one argument as an attribute -/
def spInit (K : PySem.W.Frag) (C : Addr) (f : Str) : Sp := fun vs H Q _ => ∃ a y, vs = [.ref a, y] ∧ H a = some (exo a C none) ∧ ∀ dx, H dx = none → dx ≠ a → Q .non (upd (upd H dx (exd dx [(f, y)])) a (exo a C (some dx)))
section
variable {P : Program} {w : World} {K : PySem.W.Frag} {mg : Str → Option Value} {base : Heap}
theorem init_ok {C fI : Addr} {qual f sx yx : Str} {st : Stmt} {fd : FuncData} {p1 p2 p3 pos : Pos} {k : Nat} (Fn : FunD K "__init__" qual (defArgs st) (defBody st) (defScope st) [] [] fI fd) (S : FnScope [sx, yx] [sx, yx] (defScope st)) (T : OexC K C) (hno : PySem.W.findIn K (.ref C) f = some none)
    (hbody : defBody st = [.Assign [.Attribute (.Name sx p1) f p2] (.Name yx p3) pos])
    (vs : Vis (defScope st) sx) (vy : Vis (defScope st) yx) (d1 : (sx == ("__debug__" : Str)) = false) (d2 : (yx == ("__debug__" : Str)) = false) (c1 : (sx == ("__classdict__" : Str)) = false) (c2 : (yx == ("__classdict__" : Str)) = false) :
    FnOk P w K mg base (L2.CX P w) (k + 1) fI fd [sx, yx] (spInit K C f) := by
  refine Fn.ok S (fun us H Q E h => ?_) (fun cdv A outer s H us Q E hr h => ?_)
  · obtain ⟨a, y, rfl, _⟩ := h
    rfl
  · obtain ⟨a, y, rfl, ha, q⟩ := h
    rw [hbody]
    refine ⟨_, pss_cons (ps_ost (pe_var (i := 0) rfl vs d1 c1) (pe_var (i := 1) rfl vy d2 c2)) pss_nil, ?_⟩
    refine ⟨y, rfl, .ref a, rfl, a, C, rfl, T, hno, .inl ⟨ha, fun dx n ne => ?_⟩⟩
    exact q dx n ne
end
def sRaiseO (c f : Str) (fe : Lo → R) : Lo → Fl := fun env => (fe env).go env fun p => .exc ⟨c, some (f, p)⟩ env
section
variable {X : Cx} {G : Hp × Hp} {W : WX} {x f : Str} {C fI : Addr} {fd : FuncData} {ps : List Str} {k : Nat} {e : Expr} {fe : Lo → R} {p pos p3 : Pos}
theorem ss_raiseO (hc : X.calm = true) (tk : Takes X W) (gC : X.mg x = some (.ref C)) (T : OexC X.K C) (iC : PySem.W.findIn X.K (.ref C) "__init__" = some (some (.ref fI))) (tI : PySem.W.typeIn X.K (.ref fI) = some (.type "function"))
    (F1 : FnOk X.prog X.w X.K X.mg X.base (L2.CX X.prog X.w) k fI fd ps (spInit X.K C f)) (hr : Room (k + 1) X.A) (hb : Binds X.K fd ps []) (he : PE X e (tE X G W fe)) (hg : Gl X x := by rfl)
    (hdb : (x == ("__debug__" : Str)) = false := by decide) (hs : starEach [e] X.env = (false, eval e X.env) :: starEach [] X.env := by rfl) (hpl : (backTo pos (starEach [] X.env)).any (·.1) = false := by rfl) :
    PS X (.Raise (some (.Call (.Name x p) [e] [] pos)) none p3) (tSt X G W (sRaiseO x f fe)) := by
  refine PS_mono (ps_raise hc tk (pmk_oex T iC tI F1 hr hb .nil (passes_call tk fun _ _ _ _ h => h.elim) hg gC (sa_cons he sa_nil hs) hdb hs hpl)) fun D σ H h => ?_
  obtain ⟨F, env, br, h⟩ := h
  unfold sRaiseO at h
  refine ⟨F, env, br, ?_⟩
  rw [aC_app, aN_app]
  cases ef : fe env with
  | fail => rw [ef] at h; exact h.elim
  | exc px =>
    rw [ef] at h
    exact fun F1 H1 c d ex rx => h F1 H1 σ c d ex.f (br.mono ex) rx
  | ok q =>
    rw [ef] at h
    have h : PostS X.K X.mg G W F D (.exc ⟨x, some (f, q)⟩ env) := h
    intro F1 H1 vs ex rv
    obtain ⟨v, us, rfl, r1, r2⟩ : ∃ v us, vs = v :: us ∧ Rp X.K X.mg F1 q v ∧ Rps X.K X.mg F1 [] us := by
      have : Rps X.K X.mg F1 (q :: []) vs := rv
      simp only [Rps] at this ⊢
      obtain ⟨v, us, h1, h2, h3⟩ := this
      exact ⟨v, us, h1, h2, h3⟩
    have eu : us = [] := by simpa only [Rps] using r2
    subst eu
    refine ⟨by simp, fun a ha => ⟨a, v, rfl, upd_same, fun dx n ne => ?_⟩⟩
    rw [upd_ne ne] at n
    have hda : H1 dx = none := n
    refine ⟨rfl, dx, [(f, v)], upd_same, ?_, hda, ?_⟩
    · rw [upd_ne ne, upd_same]
    · have eH : upd (del (upd (upd (upd H1 a (exo a C none)) dx (exd dx [(f, v)])) a (exo a C (some dx))) a) dx (.xd [(f, v)]) = upd H1 dx (.xd [(f, v)]) := by
        funext b
        by_cases hb : b = dx
        · subst hb; rw [upd_same, upd_same]
        · rw [upd_ne hb, upd_ne hb]
          by_cases hba : b = a
          · subst hba; rw [del_same, ha]
          · rw [del_ne hba, upd_ne hba, upd_ne hb, upd_ne hba]
      rw [eH]
      have ext2 : Ext F1 H1 (upd F1 dx (.xd [(f, v)])) (upd H1 dx (.xd [(f, v)])) := Ext.new ex.w hda
      exact h _ _ σ _ _ (ex.f.trans ext2.f) ((br.mono ex).mono ext2) ⟨C, gC, rfl, dx, v, rfl, upd_same, r1.mono ext2.f⟩
end
theorem SaysN.oxc {fa : List He.Fa} {fn : List He.DefD} {ex : List Nx} {K : PySem.W.Frag} (cc : SaysN fa fn ex K) (i : Nat) {x f : Str} (h : ex[i]? = some (.oxc x f)) : chkO K x f = true := by
  have := List.all_eq_true.mp cc.2 _ (List.mem_of_getElem? h)
  exact this
/-- the class x is raised with one argument, which stands as its attribute f -/
def GoodI (P : Program) (w : World) (K : PySem.W.Frag) (mg : Str → Option Value) (x f : Str) (lvl : Nat) : Prop :=
  ∃ (C fI : Addr) (fd : FuncData) (ps : List Str), mg x = some (.ref C) ∧ OexC K C ∧ PySem.W.findIn K (.ref C) "__init__" = some (some (.ref fI)) ∧ PySem.W.typeIn K (.ref fI) = some (.type "function") ∧
    (∀ base : Heap, FnOk P w K mg base (L2.CX P w) lvl fI fd ps (spInit K C f)) ∧ Binds K fd ps []
theorem goodI_mk {P : Program} {w : World} {K : PySem.W.Frag} {mg : Str → Option Value} {x f qual sx yx : Str} {st : Stmt} {fd : FuncData} {p1 p2 p3 pos : Pos} {k : Nat} (Fn : FunD K "__init__" qual (defArgs st) (defBody st) (defScope st) [] [] (He.ma K (He.ga K x) "__init__") fd)
    (g : mg x = some (.ref (He.ga K x))) (c : chkO K x f = true) (S : FnScope [sx, yx] [sx, yx] (defScope st))
    (hbd : ∀ (kV doc pm : Value) (an : Option Addr) (cdv ct : Value) (us : List Value), us.length = [sx, yx].length → bindArgs (PySem.W.fnOf "__init__" qual (defArgs st) (defBody st) (defScope st) .none kV doc pm an cdv ct) ⟨us, []⟩ = pure ([sx, yx].zip us))
    (hbody : defBody st = [.Assign [.Attribute (.Name sx p1) f p2] (.Name yx p3) pos])
    (vs : Vis (defScope st) sx) (vy : Vis (defScope st) yx) (d1 : (sx == ("__debug__" : Str)) = false) (d2 : (yx == ("__debug__" : Str)) = false) (c1 : (sx == ("__classdict__" : Str)) = false) (c2 : (yx == ("__classdict__" : Str)) = false) : GoodI P w K mg x f (k + 1) := by
  obtain ⟨T, i1, i2, i3⟩ := chkO_ok c
  exact ⟨_, _, fd, _, g, T, i1, i2, fun base => init_ok Fn S T i3 hbody vs vy d1 d2 c1 c2, Fn.bindsN hbd⟩
section
variable {X : Cx} {G : Hp × Hp} {W : WX} {x f : Str} {k lvl : Nat} {e : Expr} {fe : Lo → R} {p pos p3 : Pos}
theorem ss_raiseI (Gd : GoodI X.prog X.w X.K X.mg x f lvl) (hc : X.calm = true) (tk : Takes X W) (hr : Room k X.A) (he : PE X e (tE X G W fe)) (hl : lvl + 1 ≤ k := by decide) (hg : Gl X x := by rfl)
    (hdb : (x == ("__debug__" : Str)) = false := by decide) (hs : starEach [e] X.env = (false, eval e X.env) :: starEach [] X.env := by rfl) (hpl : (backTo pos (starEach [] X.env)).any (·.1) = false := by rfl) :
    PS X (.Raise (some (.Call (.Name x p) [e] [] pos)) none p3) (tSt X G W (sRaiseO x f fe)) := by
  obtain ⟨C, fI, fd, ps, g, T, i1, i2, F, hb⟩ := Gd
  exact ss_raiseO hc tk g T i1 i2 (F X.base) (hr.mono hl) hb he hg hdb hs hpl
end
end Nf

namespace Nf
open PySem PySem.Spec PyProof.Rows L2 SX
/-! ### methods of texts -/
def eT0 (g : Str → R) (fo : Lo → R) : Lo → R := fun env => (fo env).bind fun p => match p with
  | .str a => g a
  | _ => .fail
def eT1 (g : Str → PV → R) (fo fe : Lo → R) : Lo → R := fun env => (fo env).bind fun p => match p with
  | .str a => (fe env).bind fun q => g a q
  | _ => .fail
def T0G (X : Cx) (r : V → List V → Hp → VK → Prop) (g : Str → R) : Prop := ∀ (W : Value → Option Addr → Hp → Prop) (F H : Hp) (Q : VK) (a : Str), Same F H → PostR X.K X.mg W F H Q (g a) → r (.str a) [] H Q
def T1G (X : Cx) (r : V → List V → Hp → VK → Prop) (g : Str → PV → R) : Prop := ∀ (W : Value → Option Addr → Hp → Prop) (F H : Hp) (Q : VK) (a : Str) (q : PV) (u : V), Same F H → Rp X.K X.mg F q u → PostR X.K X.mg W F H Q (g a q) → r (.str a) [u] H Q
section
variable {X : Cx} {G : Hp × Hp} {W : WX} {o e : Expr} {fo fe : Lo → R} {apos pos : Pos} {id : String} {name : Str} {r : V → List V → Hp → VK → Prop}
theorem se_t0 {g : Str → R} (slot : PySem.Slot "str" name id) (ty : typeOf (.builtin id) = pure (.type "method_descriptor")) (rule : MtR X id r) (hg : T0G X r g) (ho : PE X o (tE X G W fo))
    (hbase : attributeBase o name X.env (eval o X.env) = eval o X.env := by rfl) (hline : (apos.endLine == pos.line) = true := by rfl) : PE X (.Call (.Attribute o name apos) [] [] pos) (tE X G W (eT0 g fo)) := by
  refine PE_mono (pe_m0 slot ty rule ho hbase hline) fun σ H Q h => ?_
  obtain ⟨F, env, br, h⟩ := h
  refine tE_bind br h fun p v F1 H1 _ e1 b1 rp h1 => ?_
  cases p with
  | str a =>
    have ev := rp_str.mp rp
    subst ev
    exact ⟨⟨a, rfl⟩, hg _ F1 H1 Q a b1.w h1⟩
  | _ => exact h1.elim
theorem se_t1 {g : Str → PV → R} (slot : PySem.Slot "str" name id) (ty : typeOf (.builtin id) = pure (.type "method_descriptor")) (rule : MtR X id r) (hg : T1G X r g) (ho : PE X o (tE X G W fo)) (he : PE X e (tE X G W fe))
    (hs : starEach [e] X.env = [(false, eval e X.env)] := by rfl) (hbase : attributeBase o name X.env (eval o X.env) = eval o X.env := by rfl) (hline : (apos.endLine == pos.line) = true := by rfl) :
    PE X (.Call (.Attribute o name apos) [e] [] pos) (tE X G W (eT1 g fo fe)) := by
  refine PE_mono (pe_m1 slot ty rule ho he hs hbase hline) fun σ H Q h => ?_
  obtain ⟨F, env, br, h⟩ := h
  refine tE_bind br h fun p v F1 H1 _ e1 b1 rp h1 => ?_
  cases p with
  | str a =>
    have ev := rp_str.mp rp
    subst ev
    refine ⟨⟨a, rfl⟩, ?_⟩
    exact tE_bind b1 h1 fun q u F2 H2 _ e2 b2 rq h2 => hg _ F2 H2 Q a q u b2.w rq h2
  | _ => exact h1.elim
end
/-- b begins a -/
def preS (a b : Str) : Bool := TL.pre b.cps.toList a.cps.toList
def sufS (a b : Str) : Bool := decide (b.length ≤ a.length) && (a.cps.toList.drop (a.length - b.length) == b.cps.toList)
def digL (l : List Nat) : Bool := l.all fun c => decide (48 ≤ c) && decide (c ≤ 57)
def gStarts (a : Str) : PV → R
  | .str b => .ok (.bl (preS a b))
  | _ => .fail
def gEnds (a : Str) : PV → R
  | .str b => .ok (.bl (sufS a b))
  | _ => .fail
def gIsDig (a : Str) : R := if a.cps.toList.all (· < 128) = true then .ok (.bl (!a.cps.toList.isEmpty && digL a.cps.toList)) else .fail
def gPart (a : Str) : PV → R
  | .str b => if b.length ≠ 0 ∧ a.length ≤ 100000 then .ok (.tup [.str (Txt.partition a b).1, .str (Txt.partition a b).2.1, .str (Txt.partition a b).2.2]) else .fail
  | _ => .fail
def gIndexS (a : Str) : PV → R
  | .str b => (match Builtin.Str.occurrences a b 0 a.length 1 with
    | i :: _ => .ok (.int (i : Nat))
    | [] => .fail)
  | _ => .fail
def gZfill (a : Str) : PV → R
  | .int i => if PadOk i = true then .ok (.str (Txt.zfill a i)) else .fail
  | _ => .fail
def strsP : List PV → Option (List Str)
  | [] => some []
  | .str x :: l => (match strsP l with
    | some r => some (x :: r)
    | none => none)
  | _ => none
theorem strsP_of {K : PySem.W.Frag} {mg : Str → Option Value} {F : Hp} : ∀ {ps : List PV} {vs : List V} {ys : List Str}, Rps K mg F ps vs → strsP ps = some ys → vs = ys.map V.str
  | [], vs, ys, r, e => by
    simp only [strsP, Option.some.injEq] at e
    simp only [Rps] at r
    subst e r; rfl
  | p :: ps, vs, ys, r, e => by
    simp only [Rps] at r
    obtain ⟨v, r', rfl, h1, h2⟩ := r
    cases p with
    | str x =>
      cases q : strsP ps with
      | none => simp [strsP, q] at e
      | some zs =>
        simp only [strsP, q, Option.some.injEq] at e
        subst e
        rw [rp_str.mp h1, strsP_of h2 q]
        rfl
    | _ => cases e
def gJoin (a : Str) : PV → R := fun q => match itOf q with
  | .ok l => (match strsP l with
    | some ys => if (ys.map (·.length)).sum + ys.length * a.length ≤ 16777216 then .ok (.str (Txt.join a ys)) else .fail
    | none => .fail)
  | _ => .fail
theorem starts_eq (a b : Str) : Txt.startswith a b = preS a b := by
  unfold Txt.startswith preS TL.pre
  rw [StrLaws.subAt_eq, Nat.zero_add, List.drop_zero]
  have hb : b.cps.toList.length = b.length := (TL.len_tl b).symm
  have ha : a.cps.toList.length = a.length := (TL.len_tl a).symm
  rw [hb]
  cases h : (a.cps.toList.take b.length == b.cps.toList)
  · rw [Bool.and_false]
  · rw [Bool.and_true]
    have e := congrArg List.length (eq_of_beq h)
    rw [List.length_take, hb, ha] at e
    exact decide_eq_true (by omega)
theorem ends_eq (a b : Str) : Txt.endswith a b = sufS a b := by
  unfold Txt.endswith sufS
  rw [StrLaws.subAt_eq, Nat.zero_add]
  have ha : a.cps.toList.length = a.length := (TL.len_tl a).symm
  by_cases h : b.length ≤ a.length
  · rw [decide_eq_true h, Bool.true_and, Bool.true_and, List.take_of_length_le]
    rw [List.length_drop, ha]; omega
  · rw [decide_eq_false h, Bool.false_and, Bool.false_and]
theorem dig128 : ∀ c, c < 128 → Unicode.isDigit c = (decide (48 ≤ c) && decide (c ≤ 57)) := by decide +kernel
theorem isdig_eq {a : Str} (h : a.cps.toList.all (· < 128) = true) : Txt.isdigit a = (!a.cps.toList.isEmpty && digL a.cps.toList) := by
  unfold Txt.isdigit digL
  have ha : a.cps.toList.length = a.length := (TL.len_tl a).symm
  congr 1
  · rw [← ha]
    cases a.cps.toList with
    | nil => rfl
    | cons x l => rfl
  · rw [← Array.all_toList]
    have : ∀ l : List Nat, l.all (· < 128) = true → l.all Unicode.isDigit = l.all fun c => decide (48 ≤ c) && decide (c ≤ 57) := fun l => by
      induction l with
      | nil => intro _; rfl
      | cons x l ih =>
        intro h
        rw [List.all_cons, Bool.and_eq_true] at h
        rw [List.all_cons, List.all_cons, ih h.2]
        congr 1
        exact dig128 x (of_decide_eq_true h.1)
    exact this _ h
section
variable {X : Cx}
theorem t1_starts : T1G X (fun x xs H Q => ∃ a b, x = .str a ∧ xs = [.str b] ∧ Q (.bl (Txt.startswith a b)) H) gStarts := by
  intro W F H Q a q u w rq h
  cases q with
  | str b => exact ⟨a, b, rfl, by rw [rp_str.mp rq], by rw [starts_eq]; exact h F H _ (Ext.refl w) (rp_bl.mpr rfl)⟩
  | _ => exact h.elim
theorem t1_ends : T1G X (fun x xs H Q => ∃ a b, x = .str a ∧ xs = [.str b] ∧ Q (.bl (Txt.endswith a b)) H) gEnds := by
  intro W F H Q a q u w rq h
  cases q with
  | str b => exact ⟨a, b, rfl, by rw [rp_str.mp rq], by rw [ends_eq]; exact h F H _ (Ext.refl w) (rp_bl.mpr rfl)⟩
  | _ => exact h.elim
theorem t0_isdig : T0G X (fun x xs H Q => ∃ a, x = .str a ∧ xs = [] ∧ True ∧ Q (.bl (Txt.isdigit a)) H) gIsDig := by
  intro W F H Q a w h
  unfold gIsDig at h
  split at h
  · rename_i hc
    exact ⟨a, rfl, rfl, trivial, by rw [isdig_eq hc]; exact h F H _ (Ext.refl w) (rp_bl.mpr rfl)⟩
  · exact h.elim
theorem t1_part : T1G X (fun x xs H Q => ∃ a b, x = .str a ∧ xs = [.str b] ∧ (b.length == 0) = false ∧ a.length ≤ sizeLine ∧
    ∀ p, H p = none → Q (.ref p) (upd H p (.tup [.str (Txt.partition a b).1, .str (Txt.partition a b).2.1, .str (Txt.partition a b).2.2]))) gPart := by
  intro W F H Q a q u w rq h
  cases q with
  | str b =>
    unfold gPart at h
    dsimp only at h
    split at h
    · rename_i hc
      refine ⟨a, b, rfl, by rw [rp_str.mp rq], by rw [beq_eq_false_iff_ne]; exact hc.1, Nat.le_trans hc.2 (by decide), fun p hp => ?_⟩
      have ex : Ext F H (upd F p (.tup [.str (Txt.partition a b).1, .str (Txt.partition a b).2.1, .str (Txt.partition a b).2.2])) (upd H p (.tup [.str (Txt.partition a b).1, .str (Txt.partition a b).2.1, .str (Txt.partition a b).2.2])) := Ext.new w hp
      exact h _ _ _ ex (rp_tup.mpr ⟨p, _, rfl, .inl (.inl upd_same), rps_cons (rp_str.mpr rfl) (rps_cons (rp_str.mpr rfl) (rps_cons (rp_str.mpr rfl) rps_nil))⟩)
    · exact h.elim
  | _ => exact h.elim
theorem t1_index : T1G X (fun x xs H Q => ∃ a b i rest, x = .str a ∧ xs = [.str b] ∧ Builtin.Str.occurrences a b 0 a.length 1 = i :: rest ∧ Q (.int (i : Nat)) H) gIndexS := by
  intro W F H Q a q u w rq h
  cases q with
  | str b =>
    unfold gIndexS at h
    dsimp only at h
    split at h
    · rename_i i rest e
      exact ⟨a, b, i, rest, rfl, by rw [rp_str.mp rq], e, h F H _ (Ext.refl w) (rp_int.mpr rfl)⟩
    · exact h.elim
  | _ => exact h.elim
theorem t1_zfill : T1G X (fun x xs H Q => ∃ (a : Str) (i : Int), x = .str a ∧ xs = [.int i] ∧ PadOk i = true ∧ Q (.str (Txt.zfill a i)) H) gZfill := by
  intro W F H Q a q u w rq h
  cases q with
  | int i =>
    unfold gZfill at h
    dsimp only at h
    split at h
    · rename_i hc
      exact ⟨a, i, rfl, by rw [rp_int.mp rq], hc, h F H _ (Ext.refl w) (rp_str.mpr rfl)⟩
    · exact h.elim
  | _ => exact h.elim
theorem t1_join : T1G X (fun x xs H Q => ∃ a p, ∃ ys : List Str, x = .str a ∧ xs = [.ref p] ∧ (SqL X.K H p (ys.map V.str) ∨ SqT X.K H p (ys.map V.str)) ∧
    (ys.map (·.length)).sum + ys.length * a.length ≤ 16777216 ∧ Q (.str (Txt.join a ys)) H) gJoin := by
  intro W F H Q a q u w rq h
  unfold gJoin at h
  split at h
  · rename_i l e
    split at h
    · rename_i ys e2
      split at h
      · rename_i hz
        obtain ⟨p, vs, rfl, h1, h2⟩ := seq_of w rq e
        rw [strsP_of h2 e2] at h1
        exact ⟨a, p, ys, rfl, rfl, h1, hz, h F H _ (Ext.refl w) (rp_str.mpr rfl)⟩
      · exact h.elim
    · exact h.elim
  · exact h.elim
end
section
variable {X : Cx} {G : Hp × Hp} {W : WX} {o e : Expr} {fo fe : Lo → R} {apos pos : Pos}
theorem se_starts (ho : PE X o (tE X G W fo)) (he : PE X e (tE X G W fe)) (hs : starEach [e] X.env = [(false, eval e X.env)] := by rfl) (hbase : attributeBase o "startswith" X.env (eval o X.env) = eval o X.env := by rfl) (hline : (apos.endLine == pos.line) = true := by rfl) :
    PE X (.Call (.Attribute o "startswith" apos) [e] [] pos) (tE X G W (eT1 gStarts fo fe)) := se_t1 F.slot_str_startswith F.type_str_startswith mt_startswith t1_starts ho he hs hbase hline
theorem se_ends (ho : PE X o (tE X G W fo)) (he : PE X e (tE X G W fe)) (hs : starEach [e] X.env = [(false, eval e X.env)] := by rfl) (hbase : attributeBase o "endswith" X.env (eval o X.env) = eval o X.env := by rfl) (hline : (apos.endLine == pos.line) = true := by rfl) :
    PE X (.Call (.Attribute o "endswith" apos) [e] [] pos) (tE X G W (eT1 gEnds fo fe)) := se_t1 F.slot_str_endswith F.type_str_endswith mt_endswith t1_ends ho he hs hbase hline
theorem se_part (ho : PE X o (tE X G W fo)) (he : PE X e (tE X G W fe)) (hs : starEach [e] X.env = [(false, eval e X.env)] := by rfl) (hbase : attributeBase o "partition" X.env (eval o X.env) = eval o X.env := by rfl) (hline : (apos.endLine == pos.line) = true := by rfl) :
    PE X (.Call (.Attribute o "partition" apos) [e] [] pos) (tE X G W (eT1 gPart fo fe)) := se_t1 F.slot_str_partition F.type_str_partition mt_partition t1_part ho he hs hbase hline
theorem se_index (ho : PE X o (tE X G W fo)) (he : PE X e (tE X G W fe)) (hs : starEach [e] X.env = [(false, eval e X.env)] := by rfl) (hbase : attributeBase o "index" X.env (eval o X.env) = eval o X.env := by rfl) (hline : (apos.endLine == pos.line) = true := by rfl) :
    PE X (.Call (.Attribute o "index" apos) [e] [] pos) (tE X G W (eT1 gIndexS fo fe)) := se_t1 F.slot_str_index F.type_str_index mt_sindex t1_index ho he hs hbase hline
theorem se_zfill (ho : PE X o (tE X G W fo)) (he : PE X e (tE X G W fe)) (hs : starEach [e] X.env = [(false, eval e X.env)] := by rfl) (hbase : attributeBase o "zfill" X.env (eval o X.env) = eval o X.env := by rfl) (hline : (apos.endLine == pos.line) = true := by rfl) :
    PE X (.Call (.Attribute o "zfill" apos) [e] [] pos) (tE X G W (eT1 gZfill fo fe)) := se_t1 F.slot_str_zfill F.type_str_zfill mt_zfill t1_zfill ho he hs hbase hline
theorem se_join (ho : PE X o (tE X G W fo)) (he : PE X e (tE X G W fe)) (hs : starEach [e] X.env = [(false, eval e X.env)] := by rfl) (hbase : attributeBase o "join" X.env (eval o X.env) = eval o X.env := by rfl) (hline : (apos.endLine == pos.line) = true := by rfl) :
    PE X (.Call (.Attribute o "join" apos) [e] [] pos) (tE X G W (eT1 gJoin fo fe)) := se_t1 F.slot_str_join F.type_str_join mt_join t1_join ho he hs hbase hline
theorem se_isdigit (ho : PE X o (tE X G W fo)) (hbase : attributeBase o "isdigit" X.env (eval o X.env) = eval o X.env := by rfl) (hline : (apos.endLine == pos.line) = true := by rfl) :
    PE X (.Call (.Attribute o "isdigit" apos) [] [] pos) (tE X G W (eT0 gIsDig fo)) := se_t0 F.slot_str_isdigit F.type_str_isdigit mt_isdigit t0_isdig ho hbase hline
end
/-! ### a text times a whole number -/
def repL (n : Nat) (l : List Nat) : List Nat := (List.replicate n l).flatten
def gMulS : PV → PV → R := fun p q => match p, q with
  | .str x, .int n => if -(2 ^ 63) ≤ n ∧ n < 2 ^ 63 ∧ x.length * n.toNat ≤ 100000 then .ok (.str (S (repL n.toNat x.cps.toList))) else .fail
  | _, _ => .fail
theorem len_repL (l : List Nat) : ∀ n : Nat, (repL n l).length = n * l.length
  | 0 => by simp [repL]
  | n + 1 => by
    have := len_repL l n
    unfold repL at this ⊢
    rw [List.replicate_succ, List.flatten_cons, List.length_append, this, Nat.succ_mul, Nat.add_comm]
theorem rep_arr (x : Array Nat) : ∀ n : Nat, ∀ a : Array Nat, (List.foldl (fun x1 x2 => x1 ++ x2) a (List.replicate n x)) = (a.toList ++ repL n x.toList).toArray
  | 0, a => by simp [repL]
  | n + 1, a => by
    rw [List.replicate_succ, List.foldl_cons, rep_arr x n]
    unfold repL
    rw [List.replicate_succ, List.flatten_cons, Array.toList_append, List.append_assoc]
def rMulS : R2 := fun x y H Q => ∃ (a : Str) (n : Int), x = .str a ∧ y = .int n ∧ -(2 ^ 63) ≤ n ∧ n < 2 ^ 63 ∧ a.length * n.toNat ≤ 100000 ∧ Q (.str (S (repL n.toNat a.cps.toList))) H
theorem op_mulS {X : Cx} : OpR X (binaryOp .Mult) rMulS := by
  intro pins s σ H x y v u Q I rx ry h
  obtain ⟨a, n, rfl, rfl, h1, h2, hz, q⟩ := h
  obtain ⟨t, rfl⟩ := rx
  obtain ⟨t', rfl⟩ := ry
  refine P.mul_str ?_ (fun g1 g2 => ?_) (fun g1 g2 => ?_) ?_
  · rw [decide_eq_false (by omega), decide_eq_false (by omega)]; rfl
  · have hn : 1 ≤ n := by omega
    have hl : a.length ≠ 0 := fun z => by rw [z] at g2; simp at g2
    intro hgt
    have h3 : (a.length : Int) ≤ 100000 := by
      have : a.length * 1 ≤ a.length * n.toNat := Nat.mul_le_mul_left _ (by omega)
      omega
    have h4 : n ≤ 100000 := by
      have : 1 * n.toNat ≤ a.length * n.toNat := Nat.mul_le_mul_right _ (by omega)
      omega
    have h5 : (100000 : Int) ≤ (2 ^ 63 - 1) / n := by
      rw [Int.le_ediv_iff_mul_le (by omega)]
      omega
    omega
  · exact PyProof.Rows.short24 (by omega)
  · have hr : ∀ k : Nat, (⟨List.foldl (fun x1 x2 => x1 ++ x2) #[] (List.replicate k a.cps)⟩ : Str) = S (repL k a.cps.toList) := fun k => by
      rw [rep_arr]; rfl
    by_cases g1 : n < 1
    · rw [if_pos g1]
      have e0 : n.toNat = 0 := by omega
      rw [e0] at q
      exact ⟨by decide, .str Str.empty, H, I.tok _, ⟨_, rfl⟩, q⟩
    · rw [if_neg g1]
      by_cases g2 : (n == 1 || a.length == 0) = true
      · rw [if_pos g2]
        have e : S (repL n.toNat a.cps.toList) = a := by
          rw [Bool.or_eq_true, beq_iff_eq, beq_iff_eq] at g2
          rcases g2 with g2 | g2
          · rw [g2]
            refine Eq.trans ?_ (S_tl a)
            simp [repL]
          · have : a.cps.toList = [] := List.length_eq_zero_iff.mp (by rw [← g2]; exact (TL.len_tl a).symm)
            have e2 : repL n.toNat a.cps.toList = [] := by rw [this]; unfold repL; simp
            exact (congrArg S (e2.trans this.symm)).trans (S_tl a)
        rw [e] at q
        exact ⟨.str a, H, I, ⟨_, rfl⟩, q⟩
      · rw [if_neg g2, hr]
        refine ⟨?_, .str _, H, I.tok _, ⟨_, rfl⟩, q⟩
        rw [S_len, len_repL, ← TL.len_tl a, Nat.mul_comm]
        exact Nat.le_trans hz (by decide)
theorem opG_mulS {X : Cx} : OpG X rMulS gMulS := by
  intro W F H Q p q v u w rp rq h
  unfold gMulS at h
  split at h
  · rename_i x n
    split at h
    · rename_i hc
      exact ⟨x, n, rp_str.mp rp, rp_int.mp rq, hc.1, hc.2.1, hc.2.2, h F H _ (Ext.refl w) (rp_str.mpr rfl)⟩
    · exact h.elim
  · exact h.elim
section
variable {X : Cx} {G : Hp × Hp} {W : WX} {a b : Expr} {fa fb : Lo → R} {pos : Pos}
theorem se_mulS (ha : PE X a (tE X G W fa)) (hb : PE X b (tE X G W fb)) : PE X (.BinOp a .Mult b pos) (tE X G W (e2 gMulS fa fb)) := se_op op_mulS opG_mulS ha hb
end
/-! ### str(n), int(text), max of three -/
def strI (i : Int) : Str := if i < 0 then S (45 :: TL.numL i.natAbs) else S (TL.numL i.toNat)
def gStrI : List PV → R
  | [.int i] => if i.natAbs.log2 < 1920 then .ok (.str (strI i)) else .fail
  | _ => .fail
def gIntS : List PV → R
  | [.str a] => if digL a.cps.toList = true ∧ a.cps.toList ≠ [] ∧ a.length ≤ 640 then .ok (.int ((NumText.digitsVal a.cps.toList : Nat) : Int)) else .fail
  | _ => .fail
def gMax3 : List PV → R
  | [.int i, .int j, .int k] => .ok (.int (max (max i j) k))
  | _ => .fail
theorem strI_eq (i : Int) : (Str.ofString (toString i) : Str) = strI i := by
  unfold strI
  cases i with
  | ofNat n =>
    rw [if_neg (by simp)]
    exact num_S n
  | negSucc n =>
    rw [if_pos (Int.negSucc_lt_zero n)]
    refine TL.ext_tl ?_
    have e : toString (Int.negSucc n) = "-" ++ toString ((n + 1 : Nat) : Int) := by rfl
    rw [e, TL.tl_ofString, String.toList_append, List.map_append]
    have e2 : (toString ((n + 1 : Nat) : Int)).toList.map Char.toNat = TL.numL (n + 1) := by
      rw [← TL.tl_ofString]; exact TL.tl_num (n + 1)
    rw [e2]
    rfl
section
variable {X : Cx} {G : Hp × Hp} {W : WX} {e : Expr} {es : List Expr} {fl : Lo → RL} {p pos : Pos}
theorem callG_strI : CallG X (fun xs H Q => ∃ i, xs = [.int i] ∧ i.natAbs.log2 < 1920 ∧ Q (.str (toString i)) H) gStrI := by
  intro W F H Q ps vs w rp h
  unfold gStrI at h
  split at h
  · rename_i i
    split at h
    · rename_i hc
      obtain ⟨v, rfl, r⟩ := rps1 rp
      have ev := rp_int.mp r
      subst ev
      refine ⟨i, rfl, hc, ?_⟩
      have := h F H (.str (strI i)) (Ext.refl w) (rp_str.mpr rfl)
      rw [← strI_eq] at this
      exact this
    · exact h.elim
  · exact h.elim
theorem se_strI (hgl : Gl X "str") (hm : X.mg "str" = none) (ha : PA X (e :: es) (tA X G W fl)) (he : starEach (e :: es) X.env = (false, eval e X.env) :: starEach es X.env := by rfl) (hpl : (backTo pos (starEach es X.env)).any (·.1) = false := by rfl) :
    PE X (.Call (.Name "str" p) (e :: es) [] pos) (tE X G W (eB gStrI fl)) := se_T call_str_int callG_strI hgl hm (by decide +kernel) ha (by decide) (by decide) he hpl
theorem callG_intS : CallG X (fun xs H Q => ∃ a n, xs = [.str a] ∧ PySem.intText? a = some n ∧ a.length ≤ 640 ∧ Q (.int n) H) gIntS := by
  intro W F H Q ps vs w rp h
  unfold gIntS at h
  split at h
  · rename_i a
    split at h
    · rename_i hc
      obtain ⟨v, rfl, r⟩ := rps1 rp
      have ev := rp_str.mp r
      subst ev
      have hl : a.cps.toList.length = a.length := (TL.len_tl a).symm
      have e := int_S hc.1 hc.2.1 (by rw [hl]; omega)
      rw [S_tl] at e
      exact ⟨a, _, rfl, e, hc.2.2, h F H _ (Ext.refl w) (rp_int.mpr rfl)⟩
    · exact h.elim
  · exact h.elim
theorem se_intS (hgl : Gl X "int") (hm : X.mg "int" = none) (ha : PA X (e :: es) (tA X G W fl)) (he : starEach (e :: es) X.env = (false, eval e X.env) :: starEach es X.env := by rfl) (hpl : (backTo pos (starEach es X.env)).any (·.1) = false := by rfl) :
    PE X (.Call (.Name "int" p) (e :: es) [] pos) (tE X G W (eB gIntS fl)) := se_T call_int_str callG_intS hgl hm (by decide +kernel) ha (by decide) (by decide) he hpl
theorem callG_max3 : CallG X (rNuC3 nuMax3) gMax3 := by
  intro W F H Q ps vs w rp h
  unfold gMax3 at h
  split at h
  · rename_i i j k
    obtain ⟨v, u, z, rfl, r1, r2, r3⟩ := rps3 rp
    have e1 := rp_int.mp r1
    have e2 := rp_int.mp r2
    have e3 := rp_int.mp r3
    subst e1 e2 e3
    refine ⟨_, _, _, .int (max (max i j) k), rfl, ?_, h F H _ (Ext.refl w) (rp_int.mpr rfl)⟩
    have a : ∀ x y : Int, nuMax2 (.int x) (.int y) = some (.int (max x y)) := fun x y => by
      show ((some (decide (x < y))).map fun c => if c = true then V.int y else V.int x) = _
      by_cases hh : x < y
      · simp [hh, Int.max_eq_right (Int.le_of_lt hh)]
      · simp [hh, Int.max_eq_left (Int.not_lt.mp hh)]
    unfold nuMax3
    rw [a]
    exact a _ _
  · exact h.elim
theorem se_max3 (hc : X.calm = true) (hgl : Gl X "max") (hm : X.mg "max" = none) (ha : PA X (e :: es) (tA X G W fl)) (he : starEach (e :: es) X.env = (false, eval e X.env) :: starEach es X.env := by rfl) (hpl : (backTo pos (starEach es X.env)).any (·.1) = false := by rfl) :
    PE X (.Call (.Name "max" p) (e :: es) [] pos) (tE X G W (eB gMax3 fl)) := se_B (call_max3Nu hc) callG_max3 hgl hm (by decide +kernel) ha (by decide) (by decide) he hpl
end
/-! ### a text walked sign by sign -/
def signsP (x : Str) : List PV := x.cps.toList.map fun c => .str ⟨#[c]⟩
theorem itOk_str {X : Cx} {F : Hp} {x : Str} : ItOk X F (Its x) (signsP x) where
  go := fun i F1 H e w hi => by
    unfold signsP at hi
    rw [List.length_map, Array.length_toList] at hi
    exact hi
  yld := fun i F1 H H' v e w hi y => by
    obtain ⟨rfl, c, hc, rfl⟩ := y
    unfold signsP
    exact ⟨.str ⟨#[c]⟩, F1, by rw [List.getElem?_map, Array.getElem?_toList, hc]; rfl, Ext.refl w, rp_str.mpr rfl⟩
  stop := fun i F1 H e w hi => by
    unfold signsP at hi
    rw [List.length_map, Array.length_toList] at hi
    exact hi
def iStrS (f : Lo → R) : Lo → RL := fun env => (f env).bindL fun p => match p with
  | .str x => .ok (signsP x)
  | _ => .fail
section
variable {X : Cx} {G : Hp × Hp} {W : WX} {e tg : Expr} {f : Lo → R}
theorem si_str (he : PE X e (tE X G W f)) : PI X tg e (tI X G W (iStrS f)) := by
  refine PI_mono (pi_str he) fun σ H Q h => ?_
  obtain ⟨F, env, br, h⟩ := h
  refine ⟨F, env, br, ?_⟩
  unfold iStrS at h
  cases e1 : f env with
  | fail => rw [e1] at h; exact h.elim
  | exc x => rw [e1] at h; exact h
  | ok q =>
    rw [e1] at h
    cases q with
    | str x =>
      intro F1 H1 v ex rv
      exact ⟨x, rp_str.mp rv, h F1 H1 _ ex itOk_str⟩
    | _ => exact h.elim
end
end Nf

namespace Nf
open PySem PySem.Spec PyProof.Rows L2
/-! ### err.f, err an exception that was caught and kept; C(e).f -/
theorem pe_xfO {X : Cx} {e : Expr} {te : TE} {pos : Pos} {n : Str} (he : PE X e te) (hb : attributeBase e n X.env (eval e X.env) = eval e X.env := by rfl) :
    PE X (.Attribute e n pos) (fun σ H Q => te σ H fun x H1 => ∃ (a C dd : Addr) (fs : List (Str × V)) (v : V), x = .ref a ∧ XfC X.K C ∧ PySem.W.findIn X.K (.ref C) n = some none ∧ H1 a = some (exHO (.ref C) a (some dd)) ∧ H1 dd = some (.xd fs) ∧ fs.lookup n = some v ∧ Q v H1) := by
  refine ⟨fun pins s σ H Q I h => ?_⟩
  refine attr_of hb (thn (he.run pins s σ H _ I h) fun u s1 hh => ?_)
  obtain ⟨x, H1, I1, rx, a, C, dd, fs, v, ex, T, hno, ha, ea, l, q⟩ := hh
  subst ex
  obtain rfl : u = Value.ref a := rx
  obtain ⟨⟨oe, hget, hz, vs, hv⟩, _⟩ := I1.hok a _ ha
  have hx : ObjOk X.prog X.w H1 s1.heap dd (.xd fs) := I1.hok dd _ ea
  obtain ⟨mA, hns, hr⟩ := hx
  obtain ⟨od, ho, hl⟩ := lookIn_ns hns
  obtain ⟨u, hu, ru⟩ := RelO.some_of (v := v) (o := mA n) (by rw [← l]; exact hr n)
  have J : PySem.W.InstAt s1.heap a oe C (some od) := ⟨hget, hz.1, by unfold PySem.W.notCls; rw [hv] <;> rfl, by rw [hz.2]; exact ho⟩
  exact HandSPX.exc_get I1.kIn J T.ga T.gg T.exC (PySem.W.findObj_own T.hdC hno rfl (by rw [hl, hu])) (handed_of ru) ⟨v, H1, I1.tok _, ru, q⟩
theorem pe_xfE {X : Cx} {e : Expr} {te : TE} {pos : Pos} {n : Str} (he : PE X e te) (hb : attributeBase e n X.env (eval e X.env) = eval e X.env := by rfl) :
    PE X (.Attribute e n pos) (fun σ H Q => te σ H fun x H1 => ∃ (a C dd : Addr) (fs : List (Str × V)) (v : V), x = .ref a ∧ XfC X.K C ∧ PySem.W.findIn X.K (.ref C) n = some none ∧ H1 a = some (exo a C (some dd)) ∧ H1 dd = some (exd dd fs) ∧ fs.lookup n = some v ∧ Q v H1) := by
  refine ⟨fun pins s σ H Q I h => ?_⟩
  refine attr_of hb (thn (he.run pins s σ H _ I h) fun u s1 hh => ?_)
  obtain ⟨x, H1, I1, rx, a, C, dd, fs, v, ex, T, hno, ha, ea, l, q⟩ := hh
  subst ex
  obtain rfl : u = Value.ref a := rx
  obtain ⟨t1, hget⟩ := exo_at I1.hok ha
  obtain ⟨mA, hns, hr⟩ := exd_at I1.hok ea
  obtain ⟨od, ho, hl⟩ := lookIn_ns hns
  obtain ⟨u, hu, ru⟩ := RelO.some_of (v := v) (o := mA n) (by rw [← l]; exact hr n)
  have J : PySem.W.InstAt s1.heap a _ C (some od) := ⟨hget, rfl, rfl, ho⟩
  exact HandSPX.exc_get I1.kIn J T.ga T.gg T.exC (PySem.W.findObj_own T.hdC hno rfl (by rw [hl, hu])) (handed_of ru) ⟨v, H1, I1.tok _, ru, q⟩
section
variable {X : Cx} {e : Expr} {es : List Expr} {ta : TA} {p pos : Pos}
theorem pe_oexC {CX : CXT} {x : Str} {C fI : Addr} {k : Nat} {fd : FuncData} {ps : List Str} {sp : Sp} {ds : List Value} {dvs : List V} (T : OexC X.K C) (iC : PySem.W.findIn X.K (.ref C) "__init__" = some (some (.ref fI))) (tI : PySem.W.typeIn X.K (.ref fI) = some (.type "function"))
    (F1 : FnOk X.prog X.w X.K X.mg X.base CX k fI fd ps sp) (hr : Room (k + 1) X.A) (hb : Binds X.K fd ps ds) (hd : Vals dvs ds) (hx : Passes CX X (fun _ _ _ => False)) (hg : Gl X x) (hm : X.mg x = some (.ref C)) (ha : PA X (e :: es) ta)
    (hdb : (x == ("__debug__" : Str)) = false := by decide) (he : starEach (e :: es) X.env = (false, eval e X.env) :: starEach es X.env := by rfl) (hpl : (backTo pos (starEach es X.env)).any (·.1) = false := by rfl) :
    PE X (.Call (.Name x p) (e :: es) [] pos) (fun σ H Q => ta σ H fun vs H1 => vs.length ≤ 1000 ∧ ∀ a, H1 a = none → sp (.ref a :: (vs ++ dvs)) (upd H1 a (exo a C none)) (fun v H2 => v = .non ∧ Q (.ref a) H2) (fun _ _ _ => False)) := by
  refine ⟨fun pins s σ H Q I h => ?_⟩
  obtain ⟨nm, q, N, bs, bm, sn, sub, ab, col, dd, k0, k1, k2, k3, k5, hC, hbm⟩ := T.cls
  refine wpAny_Call_Name_kw (ld_glob I hg hm ?_ hdb)
  refine PySem.W.callWith_K (h₀ := X.base) I.ok.mod.kin T.kC (thn (ha.run pos pins s σ H _ I h) fun us s1 ⟨vs, H1, I1, r1, hz, q1⟩ => ⟨I1.kIn, ?_⟩) he hpl
  show wpAny _ _ (call (.ref C) us) _ _ _
  obtain ⟨hp, g, dr, tk, os⟩ := s1
  have hsz : hp.objs.size ≤ hp.objs.size + 1 := Nat.le_succ _
  have hn : H1 (hp.objs.size + 1) = none := I1.hok.fresh hsz
  have hq := q1 (hp.objs.size + 1) hn
  have kk : ∀ b o, hp.get? b = some o → ((hp.push (PySem.W.kdv_tup us)).push (PySem.HandSPX.excO C hp.objs.size)).get? b = some o := fun b o e => Heap.get?_push_of_some _ (Heap.get?_push_of_some _ e)
  have hget : ((hp.push (PySem.W.kdv_tup us)).push (PySem.HandSPX.excO C hp.objs.size)).get? (hp.objs.size + 1) = some (PySem.HandSPX.excO C hp.objs.size) := by heap_get
  have I2 : Inv X pins σ (upd H1 (hp.objs.size + 1) (exo (hp.objs.size + 1) C none)) ⟨(hp.push (PySem.W.kdv_tup us)).push (PySem.HandSPX.excO C hp.objs.size), g, dr, tk, os⟩ :=
    I1.laid (t' := tk) (a := hp.objs.size + 1) (o := exo (hp.objs.size + 1) C none) (h' := (hp.push (PySem.W.kdv_tup us)).push (PySem.HandSPX.excO C hp.objs.size)) kk hsz (exo_ok hget)
  have r2 : Vals (V.ref (hp.objs.size + 1) :: (vs ++ dvs)) (Value.ref (hp.objs.size + 1) :: (us ++ ds)) := .cons rfl (r1.append hd)
  have hl : (Value.ref (hp.objs.size + 1) :: us ++ ds).length = ps.length := by
    have e := r2.length
    rw [F1.len _ _ _ _ hq] at e
    exact e.symm
  have hus : us.length ≤ sizeLine := by
    rw [← Paired.length r1, sizeLine_eq]
    omega
  refine wpAny_call (PySem.HandSPX.call_own F.excBase_ValueError (fun Y => PySem.HandSPX.refsVE_contains Y bm hbm) (I1.kIn _ _ hC) (PySem.W.looks_findIn I1.kIn iC) (fun self => PySem.W.bind_fn I1.kIn self tI) hus
    (codeAny_mono (F1.run _ X.stack _ _ ⟨Value.ref (hp.objs.size + 1) :: us, []⟩ (Value.ref (hp.objs.size + 1) :: (us ++ ds)) _ _ (fun _ _ _ => False) (hr.make C us []) (I2.env0.make C us []) (hb _ (Value.ref (hp.objs.size + 1) :: us) I2.kIn hl) r2 hq) fun r s' hq' => ?_))
  cases r with
  | error er => exact hx pins σ _ _ er s' I2 hq'
  | ok fl =>
    cases fl with
    | ret u =>
      obtain ⟨v, H2, os2, bare2, un2, hok2, rv, ev, q2⟩ := hq'
      subst ev
      obtain ⟨h2, g2, d2, t2, os'⟩ := s'
      exact ⟨rv, .ref (hp.objs.size + 1), H2, I2.call' (ch := []) os2 un2 hok2 bare2 (fun b z => absurd z (by simp)), rfl, q2⟩
    | next => exact False.elim hq'
    | brk => exact False.elim hq'
    | cont => exact False.elim hq'
end
/-- err.f: of the classes cs -/
def xfR (f : Str) (cs : List Str) : PV → R
  | .exn c [.str g, u] => if g = f ∧ c ∈ cs then .ok u else .fail
  | _ => .fail
section
variable {X : Cx} {G : Hp × Hp} {W : WX} {e : Expr} {fe : Lo → R} {pos : Pos} {f : Str}
theorem se_xf {cs : List Str} (hcs : ∀ c ∈ cs, ∃ D, X.mg c = some (.ref D) ∧ XfC X.K D ∧ PySem.W.findIn X.K (.ref D) f = some none) (he : PE X e (tE X G W fe)) (hb : attributeBase e f X.env (eval e X.env) = eval e X.env := by rfl) :
    PE X (.Attribute e f pos) (tE X G W (e1 (xfR f cs) fe)) := by
  refine PE_mono (pe_xfO he hb) fun σ H Q h => ?_
  obtain ⟨F, env, br, h⟩ := h
  refine tE_bind br h fun p v F1 H1 _ e1 b1 rp h1 => ?_
  unfold xfR at h1
  split at h1
  · rename_i c g u _x
    split at h1
    · rename_i hc
      obtain ⟨hgf, hc2⟩ := hc
      subst hgf
      obtain ⟨D, hD, T, hno⟩ := hcs c hc2
      obtain ⟨a, D', d, us, rfl, ha, hD', hr, hd⟩ := rp_exn.mp rp
      rw [hD] at hD'
      cases hD'
      obtain ⟨v1, v2, rfl, r1, r2⟩ := rps2 hr
      rcases hd with ⟨z, _⟩ | ⟨g', u', dd, z, rfl, hdd⟩
      · cases z
      · have e1 := rp_str.mp r1
        simp only [List.cons.injEq, and_true] at z
        obtain ⟨z1, rfl⟩ := z
        rw [e1] at z1
        cases z1
        exact ⟨a, D, dd, _, v2, rfl, T, hno, b1.w _ _ ha, b1.w _ _ hdd, by simp [List.lookup], h1 F1 H1 v2 (Ext.refl b1.w) r2⟩
    · exact h1.elim
  · exact h1.elim
theorem chkXF_ok {x f : Str} {K : PySem.W.Frag} (h : chkXF x f K = true) : XfC K (He.ga K x) ∧ PySem.W.findIn K (.ref (He.ga K x)) f = some none := by
  obtain ⟨h1, h2⟩ := He.ba h
  exact ⟨xfB_ok h1, of_decide_eq_true h2⟩
/-- C(e).f: just e's value -/
theorem se_mkf {x : Str} {k lvl : Nat} {p pos2 : Pos} (Gd : GoodI X.prog X.w X.K X.mg x f lvl) (hX : chkXF x f X.K = true) (gx : X.mg x = some (.ref (He.ga X.K x))) (tk : Takes X W) (hr : Room k X.A) (he : PE X e (tE X G W fe)) (hl : lvl + 1 ≤ k := by decide) (hg : Gl X x := by rfl)
    (hdb : (x == ("__debug__" : Str)) = false := by decide) (hs : starEach [e] X.env = (false, eval e X.env) :: starEach [] X.env := by rfl) (hpl : (backTo pos (starEach [] X.env)).any (·.1) = false := by rfl)
    (hb : attributeBase (.Call (.Name x p) [e] [] pos) f X.env (eval (.Call (.Name x p) [e] [] pos) X.env) = eval (.Call (.Name x p) [e] [] pos) X.env := by rfl) :
    PE X (.Attribute (.Call (.Name x p) [e] [] pos) f pos2) (tE X G W (e1 .ok fe)) := by
  obtain ⟨C, fI, fd, ps, gC, T, iC, tI, F1, hbd⟩ := Gd
  obtain ⟨T2, hno⟩ := chkXF_ok hX
  rw [gC] at gx
  cases gx
  refine PE_mono (pe_xfE (pe_oexC T iC tI (F1 X.base) (hr.mono hl) hbd .nil (passes_call tk fun _ _ _ _ h => h.elim) hg gC (sa_cons he sa_nil hs) hdb hs hpl) hb) fun σ H Q h => ?_
  obtain ⟨F, env, br, h⟩ := h
  refine ⟨F, env, br, ?_⟩
  rw [aC_app, aN_app]
  cases ef : fe env with
  | fail => rw [e1_app, ef] at h; exact h.elim
  | exc px => rw [e1_app, ef] at h; exact h
  | ok q =>
    rw [e1_app, ef] at h
    have h : PostR X.K X.mg (fun c d H => W c d σ H) F H Q (.ok q) := h
    intro F1 H1 vs ex rv
    obtain ⟨v, us, rfl, r1, r2⟩ : ∃ v us, vs = v :: us ∧ Rp X.K X.mg F1 q v ∧ Rps X.K X.mg F1 [] us := by
      have : Rps X.K X.mg F1 (q :: []) vs := rv
      simp only [Rps] at this ⊢
      obtain ⟨v, us, h1, h2, h3⟩ := this
      exact ⟨v, us, h1, h2, h3⟩
    have eu : us = [] := by simpa only [Rps] using r2
    subst eu
    refine ⟨by simp, fun a ha => ⟨a, v, rfl, upd_same, fun dx n ne => ⟨rfl, ?_⟩⟩⟩
    rw [upd_ne ne] at n
    have hda : H1 dx = none := n
    refine ⟨a, _, dx, [(f, v)], v, rfl, T2, hno, upd_same, by rw [upd_ne ne, upd_same], by simp [List.lookup], ?_⟩
    refine h F1 _ v ⟨ex.f, ex.h.trans ?_, ex.w.trans ?_, ex.sep⟩ r1
    all_goals
      intro b o e
      rw [upd_ne (ne_of_none e ha), upd_ne (ne_of_none e hda), upd_ne (ne_of_none e ha)]
      exact e
end
/-! ### a tuple of texts of the module -/
def tupS (l : List Str) : PV := .tup (l.map .str)
theorem rps_txts {K : PySem.W.Frag} {mg : Str → Option Value} {F : Hp} : ∀ l : List Str, Rps K mg F (l.map .str) (l.map V.str)
  | [] => rps_nil
  | x :: l => rps_cons (rp_str.mpr rfl) (rps_txts l)
theorem strsV_vals : ∀ {vs : List Value} {l : List Str}, strsV vs l = true → Vals (l.map V.str) vs
  | [], [], _ => .nil
  | [], _ :: _, h => by simp [strsV] at h
  | v :: vs, [], h => by cases v <;> simp [strsV] at h
  | v :: vs, x :: l, h => by
    cases v with
    | str y t =>
      simp only [strsV, Bool.and_eq_true, decide_eq_true_eq] at h
      obtain ⟨rfl, h⟩ := h
      exact .cons ⟨t, rfl⟩ (strsV_vals h)
    | _ => simp [strsV] at h
theorem chkTup_ok {x : Str} {l : List Str} {K : PySem.W.Frag} {hp : Heap} {mg : Str → Option Value} (KX : K.In hp) (G : hp.Ns mainGlobals mg) (h : chkTup x l K = true) : ∃ a, mg x = some (.ref a) ∧ ∀ F, Rp K mg F (tupS l) (.ref a) := by
  unfold chkTup at h
  split at h
  · rename_i a e
    split at h
    · rename_i o ho
      split at h
      · rename_i its n hd
        obtain ⟨h1, h2⟩ := He.ba h
        obtain ⟨h2, h3⟩ := He.ba h2
        refine ⟨a, PySem.W.mg_of KX G e, fun F => rp_tup.mpr ⟨a, l.map V.str, rfl, .inr ⟨o, its, n, ho, of_decide_eq_true h1, hd, Nat.le_trans (of_decide_eq_true h2) (by decide), strsV_vals h3⟩, rps_txts l⟩⟩
      · simp at h
    · cases h
  · cases h
theorem se_globT {X : Cx} {G : Hp × Hp} {W : WX} {x : Str} {pos : Pos} {l : List Str} {a : Addr} (hg : Gl X x) (hm : X.mg x = some (.ref a)) (hq : ∀ F, Rp X.K X.mg F (tupS l) (.ref a)) (hd : (x == ("__debug__" : Str)) = false := by decide) : PE X (.Name x pos) (tE X G W (eC (tupS l))) :=
  se_glob (v := .ref a) hg hm rfl hq hd
end Nf

namespace Nf
open PySem PySem.Spec PyProof.Rows L2
/-! ### isinstance(e, C), e an exception that was caught, with or without a field -/
def XdAt (H : Hp) (d : Option Addr) : Prop := ∀ dd, d = some dd → ∃ fs, H dd = some (.xd fs)
theorem inst_of {P : Program} {w : World} {H : Hp} {h : Heap} {a D : Addr} {d : Option Addr} (hok : HOk P w H h) (ha : H a = some (exHO (.ref D) a d)) (hd : XdAt H d) : ∃ oe od, PySem.W.InstAt h a oe D od := by
  obtain ⟨⟨oe, hget, hz, vs, hv⟩, _⟩ := hok a _ ha
  cases d with
  | none =>
    refine ⟨oe, none, ?_⟩
    obtain ⟨oc, od, oda, osl⟩ := oe
    obtain ⟨h1, h2⟩ := hz
    dsimp only at h1 h2 hv
    subst h1 h2 hv
    exact ⟨hget, rfl, rfl, trivial⟩
  | some dd =>
    obtain ⟨fs, ea⟩ := hd dd rfl
    obtain ⟨mA, hns, hr⟩ := (show ObjOk P w H h dd (.xd fs) from hok dd _ ea)
    obtain ⟨od, ho, hl⟩ := lookIn_ns hns
    exact ⟨oe, some od, hget, hz.1, by unfold PySem.W.notCls; rw [hv] <;> rfl, by rw [hz.2]; exact ho⟩
def rIsY (K : PySem.W.Frag) : List V → Hp → VK → Prop := fun xs H Q => ∃ (a D : Addr) (d : Option Addr) (c : V) (cv : Value) (b : Bool), xs = [.ref a, c] ∧ H a = some (exHO (.ref D) a d) ∧ XdAt H d ∧ ExcC K D ∧ (∀ u, RelV c u → u = cv) ∧ PySem.W.kitOne K (.ref D) cv = some b ∧ Q (.bl b) H
theorem call_isY {X : Cx} : CallR X (.builtin "isinstance") (rIsY X.K) := by
  intro pins s σ H xs us Q I r h
  obtain ⟨a, D, d, c, cv, b, rfl, ha, hd, C, hcv, e, q⟩ := h
  cases r with
  | cons rx rr =>
    cases rr with
    | cons rt rr =>
      cases rr
      cases rx
      have ec := hcv _ rt
      subst ec
      obtain ⟨oe, od, J⟩ := inst_of I.hok ha hd
      obtain ⟨cd, hcd, _⟩ := PySem.W.any_some C.hd
      exact PySem.W.kia_one (PySem.W.kitx_exc (by rw [hcd]; rfl) C.hg C.hk C.hs C.ha C.hn C.ht C.hm) I.kIn J e (fun z => nomatch z) fun tk => ⟨.bl b, H, I.kept (t' := tk) fun _ _ z => z, rfl, q⟩
def isyR (tbl : List (Str × Bool)) : PV → R
  | .exn c _ => match lookB c tbl with
    | some b => .ok (.bl b)
    | none => .fail
  | _ => .fail
def eIsy (tbl : List (Str × Bool)) (fa : Lo → R) : Lo → R := e1 (isyR tbl) fa
theorem exn_at {K : PySem.W.Frag} {mg : Str → Option Value} {F H : Hp} {c : Str} {fs : List PV} {u : V} {D : Addr} (w : Same F H) (hD : mg c = some (.ref D)) (rp : Rp K mg F (.exn c fs) u) : ∃ y d, u = .ref y ∧ H y = some (exHO (.ref D) y d) ∧ XdAt H d := by
  obtain ⟨y, D', d, us, rfl, hy, hD', hr, hd⟩ := rp_exn.mp rp
  have eD : D' = D := by
    rw [hD] at hD'
    cases hD'
    rfl
  subst eD
  refine ⟨y, d, rfl, w _ _ hy, fun dd e => ?_⟩
  rcases hd with ⟨_, z⟩ | ⟨f, v, dd', _, z, hdd⟩
  · rw [z] at e; cases e
  · rw [z] at e
    cases e
    exact ⟨_, w _ _ hdd⟩
section
variable {X : Cx} {G : Hp × Hp} {W : WX} {a : Expr} {fa : Lo → R} {p p2 pos : Pos} {tbl : List (Str × Bool)}
theorem isy_aux {v : V} {cv : Value} (hcv : ∀ u, RelV v u → u = cv) (ht : ∀ q ∈ tbl, ∃ D, X.mg q.1 = some (.ref D) ∧ ExcC X.K D ∧ PySem.W.kitOne X.K (.ref D) cv = some q.2) {T : Expr} (hT : PE X T (tC v)) (hgl : Gl X "isinstance") (hm : X.mg "isinstance" = none) (ha : PE X a (tE X G W fa))
    (he : starEach [a, T] X.env = (false, eval a X.env) :: starEach [T] X.env) (he2 : starEach [T] X.env = [(false, eval T X.env)]) (hpl : (backTo pos (starEach [T] X.env)).any (·.1) = false) :
    PE X (.Call (.Name "isinstance" p) [a, T] [] pos) (tE X G W (eIsy tbl fa)) := by
  refine PE_mono (pe_callB call_isY hgl hm (by decide +kernel) (pa_cons ha (pa_cons hT pa_nil he2) he) (by decide) (by decide) he hpl) fun σ H Q h => ?_
  obtain ⟨F, env, br, h⟩ := h
  refine tE_bind br h fun q u F1 H1 _ e1 b1 rp h1 => ?_
  unfold isyR at h1
  split at h1
  · rename_i c fs _x
    split at h1
    · rename_i b e
      obtain ⟨D, hD, C, hk⟩ := ht _ (lookB_mem e)
      obtain ⟨y, d, rfl, hy, hd⟩ := exn_at b1.w hD rp
      exact ⟨y, D, d, v, cv, b, rfl, hy, hd, C, hcv, hk, h1 F1 H1 _ (Ext.refl b1.w) (rp_bl.mpr rfl)⟩
    · exact h1.elim
  · exact h1.elim
theorem se_isyO {y : Str} {Y : Addr} (hgl : Gl X "isinstance") (hm : X.mg "isinstance" = none) (hgT : Gl X y) (hmT : X.mg y = some (.ref Y)) (ht : ∀ q ∈ tbl, ∃ D, X.mg q.1 = some (.ref D) ∧ ExcC X.K D ∧ PySem.W.kitOne X.K (.ref D) (.ref Y) = some q.2) (ha : PE X a (tE X G W fa)) (hdb : (y == ("__debug__" : Str)) = false := by decide)
    (he : starEach [a, .Name y p2] X.env = (false, eval a X.env) :: starEach [.Name y p2] X.env := by rfl) (he2 : starEach [.Name y p2] X.env = [(false, eval (.Name y p2) X.env)] := by rfl) (hpl : (backTo pos (starEach [.Name y p2] X.env)).any (·.1) = false := by rfl) :
    PE X (.Call (.Name "isinstance" p) [a, .Name y p2] [] pos) (tE X G W (eIsy tbl fa)) :=
  isy_aux (v := .ref Y) (cv := .ref Y) (fun _ h => h) ht (pe_glob hgT hmT rfl hdb) hgl hm ha he he2 hpl
theorem se_isyB {T : Str} {N : String} (hgl : Gl X "isinstance") (hm : X.mg "isinstance" = none) (hgT : Gl X T) (hmT : X.mg T = none) (hv : bootBuiltins T = some (.type N)) (ht : ∀ q ∈ tbl, ∃ D, X.mg q.1 = some (.ref D) ∧ ExcC X.K D ∧ PySem.W.kitOne X.K (.ref D) (.type N) = some q.2) (ha : PE X a (tE X G W fa)) (hn : T ≠ "__name__" := by decide) (hdb : (T == ("__debug__" : Str)) = false := by decide)
    (he : starEach [a, .Name T p2] X.env = (false, eval a X.env) :: starEach [.Name T p2] X.env := by rfl) (he2 : starEach [.Name T p2] X.env = [(false, eval (.Name T p2) X.env)] := by rfl) (hpl : (backTo pos (starEach [.Name T p2] X.env)).any (·.1) = false := by rfl) :
    PE X (.Call (.Name "isinstance" p) [a, .Name T p2] [] pos) (tE X G W (eIsy tbl fa)) :=
  isy_aux (v := .ty N) (cv := .type N) (fun _ h => h) ht (pe_bltn (v := .ty N) hgT hmT hv rfl hn hdb) hgl hm ha he he2 hpl
end
def rIsYT (K : PySem.W.Frag) : List V → Hp → VK → Prop := fun xs H Q => ∃ (a D tp : Addr) (d : Option Addr) (cs : List V) (us : List Value) (b : Bool), xs = [.ref a, .ref tp] ∧ H a = some (exHO (.ref D) a d) ∧ XdAt H d ∧ ExcC K D ∧ H tp = some (.tup cs) ∧ Paired ClsV cs us ∧ PySem.W.kitAny K (.ref D) us = some b ∧ Q (.bl b) H
theorem call_isYT {X : Cx} : CallR X (.builtin "isinstance") (rIsYT X.K) := by
  intro pins s σ H xs us Q I r h
  obtain ⟨a, D, tp, d, cs, ws, b, rfl, ha, hd, C, hT, k, e, q⟩ := h
  obtain ⟨u1, u2, rfl, r1, r2⟩ := vals2 r
  cases (show u1 = Value.ref a from r1)
  cases (show u2 = Value.ref tp from r2)
  obtain ⟨oe, od, J⟩ := inst_of I.hok ha hd
  obtain ⟨_, its, rv, o, h1, h2, n, h3⟩ := (show ObjOk X.prog X.w H s.heap tp (.tup cs) from I.hok tp _ hT)
  have e3 := ClsV.all k rv
  subst e3
  obtain ⟨oc, od', dt, sl⟩ := o
  simp only at h2 h3
  subst h2 h3
  obtain ⟨cd, hcd, _⟩ := PySem.W.any_some C.hd
  exact PySem.W.kia_tup (PySem.W.kitx_exc (by rw [hcd]; rfl) C.hg C.hk C.hs C.ha C.hn C.ht C.hm) I.kIn J h1 e (fun z => nomatch z) fun tk => ⟨.bl b, H, I.kept (t' := tk) fun _ _ z => z, rfl, q⟩
section
variable {X : Cx} {G : Hp × Hp} {W : WX} {a : Expr} {fa : Lo → R} {p p2 pos : Pos} {tbl : List (Str × Bool)}
theorem se_isyT {Ys : List Addr} {es : List Expr} {k : Nat} {tpos : Pos} (hgl : Gl X "isinstance") (hm : X.mg "isinstance" = none) (hes : PA X es (constA (Ys.map V.ref))) (hlen : Ys.length ≤ 100)
    (ht : ∀ q ∈ tbl, ∃ D, X.mg q.1 = some (.ref D) ∧ ExcC X.K D ∧ PySem.W.kitAny X.K (.ref D) (Ys.map Value.ref) = some q.2) (ha : PE X a (tE X G W fa))
    (he : starEach [a, .Tuple es k tpos] X.env = (false, eval a X.env) :: starEach [.Tuple es k tpos] X.env := by rfl) (he2 : starEach [.Tuple es k tpos] X.env = [(false, eval (.Tuple es k tpos) X.env)] := by rfl) (hpl : (backTo pos (starEach [.Tuple es k tpos] X.env)).any (·.1) = false := by rfl) :
    PE X (.Call (.Name "isinstance" p) [a, .Tuple es k tpos] [] pos) (tE X G W (eIsy tbl fa)) := by
  refine PE_mono (pe_callB call_isYT hgl hm (by decide +kernel) (pa_cons ha (pa_cons (pe_tup hes) pa_nil he2) he) (by decide) (by decide) he hpl) fun σ H Q h => ?_
  obtain ⟨F, env, br, h⟩ := h
  refine tE_bind br h fun q u F1 H1 _ e1 b1 rp h1 => ?_
  unfold isyR at h1
  split at h1
  · rename_i c fs _x
    split at h1
    · rename_i b e
      obtain ⟨D, hD, C, hk⟩ := ht _ (lookB_mem e)
      obtain ⟨y, d, rfl, hy, hd⟩ := exn_at b1.w hD rp
      refine constA_app _ σ H1 _ ⟨by rw [List.length_map]; exact Nat.le_trans hlen (by decide), fun tp htp => ?_⟩
      have sm : Same H1 (upd H1 tp (.tup (Ys.map V.ref))) := same_upd htp
      have x1 : Ext F1 H1 F1 (upd H1 tp (.tup (Ys.map V.ref))) := ⟨Same.refl _, sm, b1.w.trans sm, fun _ e _ => e⟩
      exact ⟨y, D, tp, d, Ys.map V.ref, Ys.map Value.ref, b, rfl, sm _ _ hy, fun dd z => let ⟨fs, g⟩ := hd dd z; ⟨fs, sm _ _ g⟩, C, upd_same, paired_own Ys, hk, h1 F1 _ _ x1 (rp_bl.mpr rfl)⟩
    · exact h1.elim
  · exact h1.elim
end
/-! ### isinstance(x, C), x an instance of a class of one's own -/
def rIsN (K : PySem.W.Frag) : List V → Hp → VK → Prop := fun xs H Q => ∃ (a C : Addr) (dx : Addr) (c : V) (cv : Value) (b : Bool), xs = [.ref a, c] ∧ H a = some (.ins C dx []) ∧ (∀ u, RelV c u → u = cv) ∧ PySem.W.kitOne K (.ref C) cv = some b ∧ Q (.bl b) H
end Nf

namespace Nf
open PySem PySem.Spec PyProof.Rows L2
/-! ### a def whose global name is an alias -/
section
variable {P : Program} {w : World} {K : PySem.W.Frag} {mg : Str → Option Value} {base : Heap}
theorem good_mkA {x n : Str} {st : Stmt} {f : Addr} {fd : FuncData} {N ps : List Str} {k np : Nat} {body : Lo → Fl} (Fn : FunD K n n (defArgs st) (defBody st) (defScope st) [] [] f fd) (g : mg x = some (.ref f)) (S : FnScope N ps (defScope st)) (hnp : np = ps.length)
    (hbd : ∀ (kV doc pm : Value) (an : Option Addr) (cdv ct : Value) (us : List Value), us.length = ps.length → bindArgs (PySem.W.fnOf n n (defArgs st) (defBody st) (defScope st) .none kV doc pm an cdv ct) ⟨us, []⟩ = pure (ps.zip us))
    (hb : ∀ (base : Heap) (cdv : Value) (A : Around) (outer : List Env) (s : Shared) (H : Hp) (E : XK) (G : Hp × Hp), Room k (A.deeper (envOfC n (defScope st) s.heap.objs.size f cdv)) →
      PSs (cxOf (L2.CX P w) P w K mg base N n (defScope st) f cdv A outer s H E) (defBody st) (tSt (cxOf (L2.CX P w) P w K mg base N n (defScope st) f cdv A outer s H E) G (fun c d _ H => E c d H) body)) :
    Good P w K mg x (k + 1) np ps (fnSem N.length np body) [] :=
  ⟨f, fd, [], [], g, Fn.kp, fun base => fnD_ok Fn S hnp (hb base), Fn.bindsN hbd, .nil, Fn.bindsN hbd, fun _ => rps_nil, fun _ => Fn.bindsA hbd⟩
end
end Nf

namespace Nf
open PySem PySem.Spec PyProof.Rows L2
/-! ### a def that tells a new list, at its end by a comprehension: the caller may change it -/
def PostN (K : PySem.W.Frag) (mg : Str → Option Value) (W : Value → Option Addr → Hp → Prop) (F H : Hp) (Q : VK) : R → Prop
  | .ok (.lst l) => ∀ F' H' a vs, Ext F H F' H' → F' a = none → H a = none → H' a = some (.lst vs) → Rps K mg F' l vs → Q (.ref a) H'
  | .exc x => ∀ F' H' c d, Ext F H F' H' → Rx K mg F' x c d → W c d H'
  | _ => False
def spN (K : PySem.W.Frag) (mg : Str → Option Value) (np : Nat) (sem : List PV → R) : Sp := fun vs H Q E => ∃ F ps, Same F H ∧ Rps K mg F ps vs ∧ ps.length = np ∧ PostN K mg E F H Q (sem ps)
def fnN (n np : Nat) (s : Lo → Fl) (fl : Lo → RL) : List PV → R := fun ps => if ps.length = np then (match s (ps.map Slot.val ++ List.replicate (n - np) Slot.none) with
  | .nx e => (match fl e with
    | .ok qs => .ok (.lst qs)
    | _ => .fail)
  | .exc x _ => .exc x
  | _ => .fail) else .fail
def GoodN (P : Program) (w : World) (K : PySem.W.Frag) (mg : Str → Option Value) (x : Str) (lvl np : Nat) (ps : List Str) (sem : List PV → R) : Prop :=
  ∃ (f : Addr) (fd : FuncData), mg x = some (.ref f) ∧ PySem.W.keepIn K (.ref f) = true ∧ (∀ base : Heap, FnOk P w K mg base (L2.CX P w) lvl f fd ps (spN K mg np sem)) ∧ Binds K fd ps []
section
variable {P : Program} {w : World} {K : PySem.W.Frag} {mg : Str → Option Value}
theorem goodN_mk {x : Str} {st : Stmt} {f : Addr} {fd : FuncData} {N ps : List Str} {k np : Nat} {s : Lo → Fl} {fl : Lo → RL} (Fn : FnQ K x st [] f fd) (g : mg x = some (.ref f)) (S : FnScope N ps (defScope st)) (hnp : np = ps.length)
    (hbd : ∀ (kV doc pm : Value) (an : Option Addr) (cdv ct : Value) (us : List Value), us.length = ps.length → bindArgs (PySem.W.fnOf x x (defArgs st) (defBody st) (defScope st) .none kV doc pm an cdv ct) ⟨us, []⟩ = pure (ps.zip us))
    (hb : ∀ (base : Heap) (cdv : Value) (A : Around) (outer : List Env) (s0 : Shared) (H : Hp) (E : XK) (G : Hp × Hp), Room k (A.deeper (envOfC x (defScope st) s0.heap.objs.size f cdv)) →
      ∃ t1 : TS, PSs (cxOf (L2.CX P w) P w K mg base N x (defScope st) f cdv A outer s0 H E) (defBody st) t1 ∧
        ∀ (D : Ends) (σ : L2.St) (H1 : Hp), tSt (cxOf (L2.CX P w) P w K mg base N x (defScope st) f cdv A outer s0 H E) G (fun c d _ H => E c d H) s { nx := fun σ H => tO (cxOf (L2.CX P w) P w K mg base N x (defScope st) f cdv A outer s0 H E) G (fun c d _ H => E c d H) fl σ H D.rt, bk := fun _ _ => False, ct := fun _ _ => False, rt := fun _ _ => False } σ H1 → t1 D σ H1) :
    GoodN P w K mg x (k + 1) np ps (fnN N.length np s fl) := by
  refine ⟨f, fd, g, Fn.kp, fun base => ?_, Fn.bindsN hbd⟩
  refine Fn.ok S (fun vs H Q E h => ?_) (fun cdv A outer s0 H vs Q E hr h => ?_)
  · obtain ⟨F, qs, _, r, hl, _⟩ := h
    rw [r.len, hl, hnp]
  · obtain ⟨F, qs, sm, r, hl, po⟩ := h
    obtain ⟨t1, ht, hi⟩ := hb base cdv A outer s0 H E (F, H) hr
    refine ⟨t1, ht, hi _ _ _ ⟨F, _, br_start sm r, ?_⟩⟩
    unfold fnN at po
    rw [if_pos hl, ← hl] at po
    cases e : s (qs.map Slot.val ++ List.replicate (N.length - qs.length) Slot.none) with
    | nx env =>
      rw [e] at po
      dsimp only at po
      cases e2 : fl env with
      | ok l =>
        rw [e2] at po
        intro F' H' σ' s' b'
        refine ⟨F', env, b', ?_⟩
        rw [e2]
        exact fun F2 H2 D vs ex h1 h2 h3 h4 h5 => po F2 H2 D vs (b'.ext.trans ex) h1 h2 h4 h5
      | exc x => rw [e2] at po; exact po.elim
      | fail => rw [e2] at po; exact po.elim
    | rt p => rw [e] at po; exact po.elim
    | exc x env => rw [e] at po; exact fun F' H' σ' c d s' b' rx => po F' H' c d b'.ext rx
    | bk env => rw [e] at po; exact po.elim
    | ct env => rw [e] at po; exact po.elim
    | fail => rw [e] at po; exact po.elim
end
section
variable {X : Cx} {G : Hp × Hp} {W : WX} {it : Lo → RL} {tt te : Lo → R} {gg : PV → Lo → Option Lo} {elt tg iter c : Expr} {scope : Scope} {pos pos2 : Pos} {s : Lo → Fl} {st : Stmt}
theorem ps_retN {ifs : List Expr} {own : List (Str × Nat)} {g : TG} (hc : X.calm = true) (hN : X.N.Nodup) (hi : PI X tg iter (tI X G W it)) (ok : BlkOk X.N X.env.scope scope own) (hgg : TgG X G g gg) (hw : TgW g (own.map (·.2)))
    (hg : ∀ (s : Shared) (H : Hp) (C : Addr) (cl : List (Str × Addr)) (fp : List Addr), PG (X.blk s H scope (compEnvC scope cl C X.env) fp) tg g)
    (ht : ∀ (s : Shared) (H : Hp) (C : Addr) (cl : List (Str × Addr)) (fp : List Addr), PTs (X.blk s H scope (compEnvC scope cl C X.env) fp) ifs (tT (X.blk s H scope (compEnvC scope cl C X.env) fp) G W0 tt))
    (he : ∀ (s : Shared) (H : Hp) (C : Addr) (cl : List (Str × Addr)) (fp : List Addr), PE (X.blk s H scope (compEnvC scope cl C X.env) fp) elt (tE (X.blk s H scope (compEnvC scope cl C X.env) fp) G W0 te)) (hs : ∀ x, foldedSetIterable iter X.env x = pure x := by intro _; rfl) :
    PS X (.Return (some (.ListComp elt [⟨tg, iter, ifs, 0⟩] scope pos)) pos2) (fun D σ H => tO X G W (eLcO it (own.map (·.2)) gg tt te) σ H D.rt) :=
  PS_mono (ps_ret (pe_lc (tt := tT X G W0 tt) (te := tE X G W0 te) hc hN hi ok hg ht he hs)) fun D σ H h => lc_own (W := W) hgg hw h
theorem psN_one {fl : Lo → RL} (h : PS X st (fun D σ H => tO X G W fl σ H D.rt)) : ∃ t1 : TS, PSs X [st] t1 ∧ ∀ (D : Ends) (σ : L2.St) (H1 : Hp), tSt X G W sNop { nx := fun σ H => tO X G W fl σ H D.rt, bk := fun _ _ => False, ct := fun _ _ => False, rt := fun _ _ => False } σ H1 → t1 D σ H1 :=
  ⟨_, pss_one h, fun D σ H1 q => by
    obtain ⟨F, env, br, q⟩ := q
    exact q F H1 σ (Same.refl F) br⟩
theorem psN_cons {st2 : Stmt} {fl : Lo → RL} (h1 : PS X st (tSt X G W s)) (h : PS X st2 (fun D σ H => tO X G W fl σ H D.rt)) : ∃ t1 : TS, PSs X [st, st2] t1 ∧ ∀ (D : Ends) (σ : L2.St) (H1 : Hp), tSt X G W s { nx := fun σ H => tO X G W fl σ H D.rt, bk := fun _ _ => False, ct := fun _ _ => False, rt := fun _ _ => False } σ H1 → t1 D σ H1 :=
  ⟨_, pss_cons h1 (pss_one h), fun D σ H1 q => by
    obtain ⟨F, env, br, q⟩ := q
    refine ⟨F, env, br, ?_⟩
    cases e : s env with
    | nx e1 => rw [e] at q; exact q
    | bk e1 => rw [e] at q; exact fun F' H' σ' s' b' => (q F' H' σ' s' b').elim
    | ct e1 => rw [e] at q; exact fun F' H' σ' s' b' => (q F' H' σ' s' b').elim
    | rt p => rw [e] at q; exact fun F' H' v ex rv => (q F' H' v ex rv).elim
    | exc x e1 => rw [e] at q; exact q
    | fail => rw [e] at q; exact q⟩
end
/-- x = f(..), f tells a new list -/
def sNewF (i : Nat) (sem : List PV → R) (fl : Lo → RL) : Lo → Fl := fun env => (fl env).go env fun ps => match sem ps with
  | .ok (.lst l) => .nx (env.set i (Slot.own l))
  | .exc x => .exc x env
  | _ => .fail
section
variable {X : Cx} {G : Hp × Hp} {W : WX} {k lvl np : Nat} {ps : List Str} {x y : Str} {p py cpos pos : Pos} {e : Expr} {es : List Expr} {fl : Lo → RL} {sem : List PV → R}
theorem ss_newF (i : Nat) (Gd : GoodN X.prog X.w X.K X.mg x lvl np ps sem) (hN : X.N.Nodup) (hr : Room k X.A) (tk : Takes X W) (ha : PA X (e :: es) (tA X G W fl)) (hl : lvl ≤ k := by decide) (hg : Gl X x := by rfl) (hi : X.N[i]? = some y := by rfl) (hx : Loc X.env.scope y := by first | exact Or.inl rfl | exact Or.inr rfl)
    (hs : swapsWith (.Call (.Name x p) (e :: es) [] cpos) (some (.Name y py)) pos.line X.env = pure false := by rfl) (hf : X.fn y = true ∨ X.env.scope.names.lookup y = some .local := by first | exact .inl rfl | exact .inr rfl)
    (hdb : (x == ("__debug__" : Str)) = false := by decide) (he : starEach (e :: es) X.env = (false, eval e X.env) :: starEach es X.env := by rfl) (hpl : (backTo cpos (starEach es X.env)).any (·.1) = false := by rfl)
    (hnp : ∀ qs, qs.length ≠ np → sem qs = .fail := by intro qs h; exact if_neg h) :
    PS X (.Assign [.Name y py] (.Call (.Name x p) (e :: es) [] cpos) pos) (tSt X G W (sNewF i sem fl)) := by
  obtain ⟨f, fd, g, kp, ok, b0⟩ := Gd
  refine PS_mono (ps_set hN hi hx (pe_callSD (ok X.base) (hr.mono hl) hg g kp b0 .nil (fun σ => passAt tk σ) ha hdb he hpl) hs hf) fun D σ H h => ?_
  obtain ⟨F, env, br, h⟩ := h
  refine tA_go br h fun qs vs F1 H1 e1 b1 rp h1 => ?_
  have hl2 : qs.length = np := Decidable.byContradiction fun hn => by rw [hnp _ hn] at h1; exact h1
  refine ⟨F1, qs, b1.w, by rw [List.append_nil]; exact rp, hl2, ?_⟩
  cases es : sem qs with
  | ok q =>
    rw [es] at h1
    cases q with
    | lst l =>
      intro F2 H2 a us ex nF nH eH rs
      refine h1 F2 H2 _ ex.f ((b1.mono ex).ownNew nF (b1.ext.h.free nH) (fun j d m c g1 g2 z => ?_) eH rs)
      subst z
      obtain ⟨a', ws, k1, k2, k3, k4, k5⟩ := b1.own j d m g1
      rw [k1] at g2
      cases g2
      rw [nH] at k4
      cases k4
    | _ => exact h1.elim
  | exc px =>
    rw [es] at h1
    exact fun F2 H2 c d ex rx => h1 F2 H2 σ c d ex.f (b1.mono ex) rx
  | fail => rw [es] at h1; exact h1.elim
end
/-! ### a list of one's own that is lent for a reading -/
section
variable {X : Cx} {G : Hp × Hp} {W : WX} {e : Expr} {f : Lo → R}
theorem st_bor (i : Nat) (h : PT X e (tT X G W f)) : PT X e (tT X G W (eBor i f)) := PT_mono h fun σ H Q h => by
  obtain ⟨F, env, br, h⟩ := h
  unfold eBor at h
  split at h
  · rename_i d l e
    obtain ⟨F', sm, b'⟩ := br.freeze e
    refine ⟨F', _, b', ?_⟩
    cases ef : f (env.set i (Slot.val (frzOf d l))) with
    | ok p =>
      rw [ef] at h
      dsimp only at h
      split at h
      · rename_i hp
        intro F1 H1 v ex rv
        exact h F H1 v ⟨Same.refl F, ex.h, fun x o q => ex.h _ _ (br.w x o q), fun _ e _ => e⟩ (plain_rp hp rv)
      · exact h.elim
    | exc x => rw [ef] at h; exact h.elim
    | fail => rw [ef] at h; exact h.elim
  · exact ⟨F, env, br, h⟩
theorem plain_rps {K : PySem.W.Frag} {mg : Str → Option Value} {F F' : Hp} : ∀ {ps : List PV} {vs : List V}, ps.all plainP = true → Rps K mg F ps vs → Rps K mg F' ps vs
  | [], _, _, h => by simp only [Rps] at h ⊢; exact h
  | p :: ps, _, hp, h => by
    simp only [Rps] at h ⊢
    rw [List.all_cons, Bool.and_eq_true] at hp
    obtain ⟨v, r, e, h1, h2⟩ := h
    exact ⟨v, r, e, plain_rp hp.1 h1, plain_rps hp.2 h2⟩
end
/-- x = f(.., y, ..), f tells a new list, y is one's own and stays so -/
def sNewFB (i j : Nat) (sem : List PV → R) (fl : Lo → RL) : Lo → Fl := fun env => match env[j]? with
  | some (.ow d l0) => (match fl (env.set j (Slot.val (frzOf d l0))) with
    | .ok ps => (match sem ps with
      | .ok (.lst l) => if l.all plainP = true then .nx (env.set i (Slot.own l)) else .fail
      | _ => .fail)
    | _ => .fail)
  | _ => .fail
/-- x = list(y), y is one's own and stays so -/
def sNewLB (i j : Nat) : Lo → Fl := fun env => match env[j]? with
  | some (.ow .none l) => .nx (env.set i (Slot.own l))
  | _ => .fail
section
variable {X : Cx} {G : Hp × Hp} {W : WX} {k lvl np : Nat} {ps : List Str} {x y : Str} {p py cpos pos : Pos} {e : Expr} {es : List Expr} {fl : Lo → RL} {sem : List PV → R}
theorem ss_newFB (i j : Nat) (Gd : GoodN X.prog X.w X.K X.mg x lvl np ps sem) (hN : X.N.Nodup) (hr : Room k X.A) (tk : Takes X W) (ha : PA X (e :: es) (tA X G W fl)) (hl : lvl ≤ k := by decide) (hg : Gl X x := by rfl) (hi : X.N[i]? = some y := by rfl) (hx : Loc X.env.scope y := by first | exact Or.inl rfl | exact Or.inr rfl)
    (hs : swapsWith (.Call (.Name x p) (e :: es) [] cpos) (some (.Name y py)) pos.line X.env = pure false := by rfl) (hf : X.fn y = true ∨ X.env.scope.names.lookup y = some .local := by first | exact .inl rfl | exact .inr rfl)
    (hdb : (x == ("__debug__" : Str)) = false := by decide) (he : starEach (e :: es) X.env = (false, eval e X.env) :: starEach es X.env := by rfl) (hpl : (backTo cpos (starEach es X.env)).any (·.1) = false := by rfl)
    (hnp : ∀ qs, qs.length ≠ np → sem qs = .fail := by intro qs h; exact if_neg h) :
    PS X (.Assign [.Name y py] (.Call (.Name x p) (e :: es) [] cpos) pos) (tSt X G W (sNewFB i j sem fl)) := by
  obtain ⟨f, fd, g, kp, ok, b0⟩ := Gd
  refine PS_mono (ps_set hN hi hx (pe_callSD (ok X.base) (hr.mono hl) hg g kp b0 .nil (fun σ => passAt tk σ) ha hdb he hpl) hs hf) fun D σ H h => ?_
  obtain ⟨F, env, br, h⟩ := h
  unfold sNewFB at h
  split at h
  · rename_i d l0 ej
    obtain ⟨F', sm, b'⟩ := br.freeze ej
    refine ⟨F', _, b', ?_⟩
    cases ef : fl (env.set j (Slot.val (frzOf d l0))) with
    | ok qs =>
      rw [ef] at h
      dsimp only at h
      intro F1 H1 vs ex rp
      have hl2 : qs.length = np := Decidable.byContradiction fun hn => by rw [hnp _ hn] at h; exact h
      refine ⟨F1, qs, (b'.mono ex).w, by rw [List.append_nil]; exact rp, hl2, ?_⟩
      cases es : sem qs with
      | ok q =>
        rw [es] at h
        cases q with
        | lst l =>
          dsimp only at h
          split at h
          · rename_i hp
            intro F2 H2 a us ex2 nF nH eH rs
            have x0 : Ext F H F H2 := ⟨Same.refl F, ex.h.trans ex2.h, fun x o q => (ex.h.trans ex2.h) _ _ (br.w x o q), fun _ e _ => e⟩
            have nH0 : H a = none := ex.h.free nH
            refine h F H2 _ (Same.refl F) ((br.mono x0).ownNew (br.w.free nH0) (br.ext.h.free nH0) (fun j d m c g1 g2 z => ?_) eH (plain_rps hp rs))
            subst z
            obtain ⟨a', ws, k1, k2, k3, k4, k5⟩ := br.own j d m g1
            rw [k1] at g2
            cases g2
            rw [nH0] at k4
            cases k4
          · exact h.elim
        | _ => exact h.elim
      | exc px => rw [es] at h; exact h.elim
      | fail => rw [es] at h; exact h.elim
    | exc x => rw [ef] at h; exact h.elim
    | fail => rw [ef] at h; exact h.elim
  · exact h.elim
theorem ss_newLB (i j : Nat) {z : Str} {p2 : Pos} (hgl : Gl X "list") (hm : X.mg "list" = none) (hN : X.N.Nodup) (hj : X.N[j]? = some z := by rfl) (hv : Vis X.env.scope z := by first | exact Or.inl rfl | exact Or.inr (Or.inl rfl) | exact Or.inr (Or.inr rfl)) (hi : X.N[i]? = some y := by rfl) (hx : Loc X.env.scope y := by first | exact Or.inl rfl | exact Or.inr rfl)
    (hs : swapsWith (.Call (.Name "list" p) [.Name z p2] [] cpos) (some (.Name y py)) pos.line X.env = pure false := by rfl) (hf : X.fn y = true ∨ X.env.scope.names.lookup y = some .local := by first | exact .inl rfl | exact .inr rfl)
    (hd : (z == ("__debug__" : Str)) = false := by decide) (hcd : (z == ("__classdict__" : Str)) = false := by decide) (he : starEach [.Name z p2] X.env = (false, eval (.Name z p2) X.env) :: starEach [] X.env := by rfl) (hpl : (backTo cpos (starEach [] X.env)).any (·.1) = false := by rfl) :
    PS X (.Assign [.Name y py] (.Call (.Name "list" p) [.Name z p2] [] cpos) pos) (tSt X G W (sNewLB i j)) := by
  refine PS_mono (ps_set hN hi hx (pe_callTy call_list_of hgl hm (by decide +kernel) (pa_cons (pe_var hj hv hd hcd) pa_nil he) (by decide) (by decide) he hpl) hs hf) fun D σ H h => ?_
  obtain ⟨F, env, br, h⟩ := h
  unfold sNewLB at h
  split at h
  · rename_i l ej
    obtain ⟨a, vs, h1, h2, h3, h4, h5⟩ := br.ownL j l ej
    refine ⟨.ref a, h1, a, vs, rfl, .inl (.inl (.inl h4)), fun c hc => ?_⟩
    exact h F _ _ (Same.refl F) (br.setOwn h5 hc)
  · exact h.elim
end
end Nf

namespace Nf
open PySem PySem.Spec PyProof.Rows L2
/-! ### d.get(k, x), d a dict of one's own -/
def getDGo (o : Option Slot) (rk rd : R) : R := match o with
  | some (.ow (some ks) l) => rk.bind fun q => rd.bind fun z => match keyP q with
    | some k => (match lookK ks l k with
      | some p => .ok p
      | none => .ok z)
    | none => .fail
  | _ => .fail
def eGetDD (i : Nat) (fk fd : Lo → R) : Lo → R := fun env => getDGo env[i]? (fk env) (fd env)
section
variable {X : Cx} {G : Hp × Hp} {W : WX} {ix ed : Expr} {fi fd : Lo → R} {p1 apos pos : Pos}
theorem se_getDD (i : Nat) {x : Str} (hu : X.A.units + 64 < cLine) (hx : PE X ix (tE X G W fi)) (hdf : PE X ed (tE X G W fd)) (hi : X.N[i]? = some x := by rfl) (hv : Vis X.env.scope x := by first | exact Or.inl rfl | exact Or.inr (Or.inl rfl) | exact Or.inr (Or.inr rfl)) (hd : (x == ("__debug__" : Str)) = false := by decide)
    (hcd : (x == ("__classdict__" : Str)) = false := by decide) (m : M2 X (.Name x p1) "get" apos ix ed pos := by exact ⟨rfl, rfl, rfl, rfl⟩) : PE X (.Call (.Attribute (.Name x p1) "get" apos) [ix, ed] [] pos) (tE X G W (eGetDD i fi fd)) := by
  refine PE_mono (pe_dget2 (by omega) (pe_var hi hv hd hcd) hx hdf m) fun σ H Q h => ?_
  obtain ⟨F, env, br, h⟩ := h
  unfold eGetDD getDGo at h
  split at h
  · rename_i ks l e0
    obtain ⟨a, vs, q1, _, _, q4, _⟩ := br.ownD i ks l e0
    refine ⟨.ref a, q1, a, rfl, .inl ⟨_, .inl q4⟩, ?_⟩
    refine tE_bind br h fun q w F2 H2 _ e2 b2 rq h2 => ?_
    refine tE_bind b2 h2 fun z u F3 H3 _ e3 b3 rz h3 => ?_
    obtain ⟨a2, vs2, q1', r2, r3, r4, r5, r6⟩ := b3.ownD i ks l e0
    rw [q1] at q1'
    cases q1'
    split at h3
    · rename_i k hk
      have ew := keyP_rp (rq.mono e3.f) hk
      subst ew
      split at h3
      · rename_i p hp
        obtain ⟨v, g1, g2⟩ := lookK_some r5 hp
        exact ⟨some v, by have := DGet.k (k := k) r4; rw [g1] at this; exact this, h3 F3 H3 v (Ext.refl b3.w) g2⟩
      · rename_i hp
        exact ⟨none, by have := DGet.k (k := k) r4; rw [lookK_none r5 r6 hp] at this; exact this, h3 F3 H3 u (Ext.refl b3.w) rz⟩
    · exact h3.elim
  · exact h.elim
end
/-! ### d == e, dicts with whole numbers, which are alike -/
def lookI : List Key → List Int → Key → Option Int
  | k :: ks, i :: is, q => if k = q then some i else lookI ks is q
  | _, _, _ => none
def gEqDct : PV → PV → R := fun p q => match p, q with
  | .dct ks l, .dct ks2 l2 => (match intsP l, intsP l2 with
    | some is, some js => if ks.length = ks2.length ∧ is.length = ks.length ∧ js.length = ks2.length ∧ (ks.zip is).all (fun z => decide (lookI ks2 js z.1 = some z.2)) = true then .ok (.bl true) else .fail
    | _, _ => .fail)
  | _, _ => .fail
theorem lookup_valV {k : Key} {v : Int} : ∀ {ks : List Key} {is : List Int}, lookI ks is k = some v → valV (ks.zip (is.map V.int)) k = some (V.int v)
  | [], _, h => by cases h
  | _ :: _, [], h => by cases h
  | q :: ks, i :: is, h => by
    unfold lookI at h
    rw [List.map_cons, List.zip_cons_cons]
    split at h
    · rename_i hk
      cases h
      exact valV_pos hk
    · rename_i hk
      rw [valV_neg hk]
      exact lookup_valV h
theorem opG_eqDct {X : Cx} : OpG X (rEqDA) gEqDct := by
  intro W F H Q p q v u w rp rq h
  unfold gEqDct at h
  split at h
  · rename_i ks l ks2 l2
    split at h
    · rename_i is js e1 e2
      split at h
      · rename_i hc
        obtain ⟨c1, c2, c3, c4⟩ := hc
        obtain ⟨a, us, rfl, g1, g2, g3⟩ := rp_dct.mp rp
        obtain ⟨b, ws, rfl, k1, k2, k3⟩ := rp_dct.mp rq
        rw [intsP_eq e1] at g3
        rw [intsP_eq e2] at k3
        have eu := rps_intsE g3
        have ew := rps_intsE k3
        subst eu ew
        refine ⟨a, b, _, _, rfl, rfl, w _ _ g1, w _ _ k1, ?_, fun z hz => ?_, h F H _ (Ext.refl w) (rp_bl.mpr rfl)⟩
        · rw [List.length_zip, List.length_zip, List.length_map, List.length_map]; omega
        · rw [List.zip_map_right, List.mem_map] at hz
          obtain ⟨y, hy, rfl⟩ := hz
          have := List.all_eq_true.mp c4 y hy
          exact ⟨lookup_valV (of_decide_eq_true this), rfl⟩
      · exact h.elim
    · exact h.elim
  · exact h.elim
section
variable {X : Cx} {G : Hp × Hp} {W : WX} {a b : Expr} {fa fb : Lo → R} {pos : Pos}
theorem se_eqDct (hu : X.A.units + 64 < cLine) (ha : PE X a (tE X G W fa)) (hb : PE X b (tE X G W fb)) (hm : behindInMarks .Eq b = false := by rfl) : PE X (.Compare a [.Eq] [b] pos) (tE X G W (e2 gEqDct fa fb)) := se_cmp (op_eq_dictA (by omega)) opG_eqDct ha hb hm
theorem st_eqDct (hu : X.A.units + 64 < cLine) (ha : PE X a (tE X G W fa)) (hb : PE X b (tE X G W fb)) (hm : behindInMarks .Eq b = false := by rfl) : PT X (.Compare a [.Eq] [b] pos) (tT X G W (e2 gEqDct fa fb)) := st_cmp (op_eq_dictA (by omega)) opG_eqDct ha hb hm
end
/-! ### sorted(texts), sorted(dict) -/
def leC (a b : Str) : Bool := !ltCps b.cps.toList a.cps.toList
def srtS (l : List Str) : List Str := l.mergeSort leC
theorem ltc_tri : ∀ a b : List Nat, ltCps a b = false → ltCps b a = false → a = b
  | [], [], _, _ => rfl
  | [], _ :: _, h, _ => by simp [ltCps] at h
  | _ :: _, [], _, h => by simp [ltCps] at h
  | x :: a, y :: b, h1, h2 => by
    simp only [ltCps, Bool.or_eq_false_iff, Bool.and_eq_false_iff, decide_eq_false_iff_not, beq_eq_false_iff_ne] at h1 h2
    have e : x = y := by omega
    subst e
    rw [ltc_tri a b (h1.2.resolve_left (fun z => z rfl)) (h2.2.resolve_left (fun z => z rfl))]
theorem ltc_trans : ∀ a b c : List Nat, ltCps b a = false → ltCps c b = false → ltCps c a = false
  | [], _, [], _, _ => rfl
  | [], [], _ :: _, _, _ => rfl
  | [], _ :: _, c :: cs, _, _ => rfl
  | a :: as, [], _, h, _ => by simp [ltCps] at h
  | a :: as, b :: bs, [], _, h => by simp [ltCps] at h
  | a :: as, b :: bs, c :: cs, h1, h2 => by
    simp only [ltCps, Bool.or_eq_false_iff, Bool.and_eq_false_iff, decide_eq_false_iff_not, beq_eq_false_iff_ne] at h1 h2 ⊢
    refine ⟨by omega, ?_⟩
    by_cases e : c = a
    · right
      have e1 : b = a := by omega
      have e2 : c = b := by omega
      exact ltc_trans as bs cs (h1.2.resolve_left (fun z => z e1)) (h2.2.resolve_left (fun z => z e2))
    · exact .inl e
theorem ltc_asym : ∀ a b : List Nat, ltCps a b = false ∨ ltCps b a = false
  | [], [] => .inl rfl
  | [], _ :: _ => .inr rfl
  | _ :: _, [] => .inl rfl
  | x :: a, y :: b => by
    simp only [ltCps, Bool.or_eq_false_iff, Bool.and_eq_false_iff, decide_eq_false_iff_not, beq_eq_false_iff_ne]
    have := ltc_asym a b
    by_cases e : x = y
    · subst e
      rcases this with h | h
      · exact .inl ⟨by omega, .inr h⟩
      · exact .inr ⟨by omega, .inr h⟩
    · by_cases h : x < y
      · exact .inr ⟨by omega, .inl (fun z => e z.symm)⟩
      · exact .inl ⟨h, .inl e⟩
theorem leC_anti {a b : Str} (h1 : leC a b = true) (h2 : leC b a = true) : a = b := by
  unfold leC at h1 h2
  rw [Bool.not_eq_true'] at h1 h2
  exact TL.ext_tl (ltc_tri _ _ h2 h1)
theorem leC_trans (a b c : Str) (h1 : leC a b = true) (h2 : leC b c = true) : leC a c = true := by
  unfold leC at h1 h2 ⊢
  rw [Bool.not_eq_true'] at h1 h2 ⊢
  exact ltc_trans _ _ _ h1 h2
theorem leC_total (a b : Str) : (leC a b || leC b a) = true := by
  unfold leC
  rcases ltc_asym b.cps.toList a.cps.toList with h | h <;> rw [h] <;> simp
theorem sortedS_pw : ∀ {l : List Str}, sortedS l = true → l.Pairwise (fun a b => leC a b = true)
  | [], _ => List.Pairwise.nil
  | x :: l, h => by
    have aux : ∀ (x : Str) (l : List Str), risingS x l = true → (x :: l).Pairwise (fun a b => leC a b = true) := fun x l => by
      induction l generalizing x with
      | nil => intro _; simp
      | cons y l ih =>
        intro h
        simp only [risingS, Bool.and_eq_true] at h
        have h1 := ih y h.2
        have hxy : leC x y = true := h.1
        rw [List.pairwise_cons]
        refine ⟨fun z hz => ?_, h1⟩
        rcases List.mem_cons.mp hz with rfl | hz
        · exact hxy
        · exact leC_trans _ _ _ hxy ((List.pairwise_cons.mp h1).1 z hz)
    exact aux x l h
theorem srtS_uniq {xs ys : List Str} (h : ys.Perm xs) (s : sortedS ys = true) : ys = srtS xs :=
  List.Perm.eq_of_pairwise (le := fun a b => leC a b = true) (fun a b _ _ h1 h2 => leC_anti h1 h2) (sortedS_pw s) (List.pairwise_mergeSort leC_trans leC_total xs) (h.trans (List.mergeSort_perm xs leC).symm)
theorem srtS_perm {xs ys : List Str} (h : xs.Perm ys) : srtS xs = srtS ys :=
  List.Perm.eq_of_pairwise (le := fun a b => leC a b = true) (fun a b _ _ h1 h2 => leC_anti h1 h2) (List.pairwise_mergeSort leC_trans leC_total xs) (List.pairwise_mergeSort leC_trans leC_total ys) ((List.mergeSort_perm xs leC).trans (h.trans (List.mergeSort_perm ys leC).symm))
def keyS : List Key → Option (List Str)
  | [] => some []
  | .inr x :: l => (match keyS l with
    | some r => some (x :: r)
    | none => none)
  | _ => none
theorem keyS_of : ∀ {ks : List Key} {xs : List Str}, keyS ks = some xs → ks = xs.map Sum.inr
  | [], xs, h => by cases h; rfl
  | .inl _ :: _, xs, h => by cases h
  | .inr x :: l, xs, h => by
    unfold keyS at h
    cases e : keyS l with
    | none => rw [e] at h; cases h
    | some r => rw [e] at h; cases h; rw [keyS_of e]; rfl
def gSortedT : List PV → R
  | [.lst l] => (match strsP l with
    | some xs => if xs.length < 64 then .ok (.lst ((srtS xs).map .str)) else .fail
    | none => .fail)
  | _ => .fail
def gSortedD : List PV → R
  | [.dct ks l] => (match keyS ks with
    | some xs => if xs.length < 64 then .ok (.lst ((srtS xs).map .str)) else .fail
    | none => .fail)
  | _ => .fail
section
variable {X : Cx} {G : Hp × Hp} {W : WX} {e : Expr} {es : List Expr} {fl : Lo → RL} {p pos : Pos}
theorem callG_sortedT : CallG X (rSortedS X.K) gSortedT := by
  intro W F H Q ps vs w rp h
  unfold gSortedT at h
  split at h
  · rename_i l
    obtain ⟨v, rfl, r⟩ := rps1 rp
    obtain ⟨a, us, rfl, h1, h2⟩ := rp_lst.mp r
    split at h
    · rename_i xs e
      split at h
      · rename_i hl
        rw [strsP_of h2 e] at h1
        refine ⟨a, xs, rfl, sql_mono w h1, hl, fun ys c pm sd hc => ?_⟩
        rw [srtS_uniq pm sd]
        have ex : Ext F H (upd F c (.lst ((srtS xs).map V.str))) (upd H c (.lst ((srtS xs).map V.str))) := Ext.new w hc
        exact h _ _ _ ex (rp_lst.mpr ⟨c, _, rfl, .inl (.inl upd_same), rps_txts _⟩)
      · exact h.elim
    · exact h.elim
  · exact h.elim
theorem callG_sortedD : CallG X (fun xs H Q => ∃ (a : Addr) (kvs : List (Key × V)) (ks : List Str), xs = [.ref a] ∧ Rd H a (.dK kvs) ∧ kvs.map (·.1) = ks.map Sum.inr ∧ ks.length < 64 ∧ ∀ ys p, ys.Perm ks → sortedS ys = true → H p = none → Q (.ref p) (upd H p (.lst (ys.map V.str)))) gSortedD := by
  intro W F H Q ps vs w rp h
  unfold gSortedD at h
  split at h
  · rename_i ks l
    obtain ⟨v, rfl, r⟩ := rps1 rp
    obtain ⟨a, us, rfl, h1, h2, h3⟩ := rp_dct.mp r
    split at h
    · rename_i xs e
      split at h
      · rename_i hl
        refine ⟨a, _, xs, rfl, .inl (w _ _ h1), ?_, hl, fun ys c pm sd hc => ?_⟩
        · rw [zip_fst h2]; exact keyS_of e
        · rw [srtS_uniq pm sd]
          have ex : Ext F H (upd F c (.lst ((srtS xs).map V.str))) (upd H c (.lst ((srtS xs).map V.str))) := Ext.new w hc
          exact h _ _ _ ex (rp_lst.mpr ⟨c, _, rfl, .inl (.inl upd_same), rps_txts _⟩)
      · exact h.elim
    · exact h.elim
  · exact h.elim
theorem se_sortedT (hgl : Gl X "sorted") (hm : X.mg "sorted" = none) (ha : PA X (e :: es) (tA X G W fl)) (he : starEach (e :: es) X.env = (false, eval e X.env) :: starEach es X.env := by rfl) (hpl : (backTo pos (starEach es X.env)).any (·.1) = false := by rfl) :
    PE X (.Call (.Name "sorted" p) (e :: es) [] pos) (tE X G W (eB gSortedT fl)) := se_B cr_sortedS callG_sortedT hgl hm (by decide +kernel) ha (by decide) (by decide) he hpl
theorem se_sortedD (hc : X.calm = true) (hgl : Gl X "sorted") (hm : X.mg "sorted" = none) (ha : PA X (e :: es) (tA X G W fl)) (he : starEach (e :: es) X.env = (false, eval e X.env) :: starEach es X.env := by rfl) (hpl : (backTo pos (starEach es X.env)).any (·.1) = false := by rfl) :
    PE X (.Call (.Name "sorted" p) (e :: es) [] pos) (tE X G W (eB gSortedD fl)) := se_B (call_sortedD hc) callG_sortedD hgl hm (by decide +kernel) ha (by decide) (by decide) he hpl
end
end Nf

namespace Nf
open PySem PySem.Spec PyProof.Rows L2
/-! ### a def that is called within an except suite and raises nothing there -/
abbrev xNo : XK := fun _ _ _ => False
structure FnT (P : Program) (w : World) (K : PySem.W.Frag) (mg : Str → Option Value) (base : Heap) (k : Nat) (f : Addr) (fd : FuncData) (ps : List Str) (sp : Sp) : Prop where
  len : ∀ vs H Q E, sp vs H Q E → vs.length = ps.length
  go : ∀ (A : Around) (outer : List Env) (s : Shared) (H : Hp) (args : Args) (us : List Value) (vs : List V) (Q : VK), L2H.RoomH k A → Env0 P w K mg base A outer s H → BindsTo s fd args (ps.zip us) → Vals vs us → sp vs H Q xNo → codeAny (model P w) A (.call (.ref f) args) (CR (L2.CX P w) outer P w H s Q xNo) s
abbrev cxT (P : Program) (w : World) (K : PySem.W.Frag) (mg : Str → Option Value) (base : Heap) (N : List Str) (x : Str) (scope : Scope) (f : Addr) (cdv : Value) (A : Around) (outer : List Env) (s : Shared) (H : Hp) (p : Addr × Obj) : Cx := L2H.cxH (L2.CX P w) P w K mg base N x scope f cdv A outer s H xNo p
section
variable {P : Program} {w : World} {K : PySem.W.Frag} {mg : Str → Option Value} {base : Heap}
theorem fnT_of {x : Str} {st : Stmt} {f : Addr} {fd : FuncData} {N ps : List Str} {k : Nat} {sp : Sp} (Fn : FnQ K x st [] f fd) (S : FnScope N ps (defScope st)) (len : ∀ vs H Q E, sp vs H Q E → vs.length = ps.length)
    (hb : ∀ (cdv : Value) (A : Around) (outer : List Env) (s : Shared) (H : Hp) (vs : List V) (Q : VK) (p : Addr × Obj), L2H.RoomH k (A.deeper (envOfC x (defScope st) s.heap.objs.size f cdv)) → sp vs H Q xNo →
      ∃ t, PSs (cxT P w K mg base N x (defScope st) f cdv A outer s H p) (defBody st) t ∧ t { nx := fun _ H' => Q .non H', rt := Q } (L2.start N vs) H) : FnT P w K mg base (k + 1) f fd ps sp := by
  obtain ⟨oc, od, dV, kV, doc, pm, an, cdv, ct, osl, rfl, lk, hcd, _, _⟩ := Fn.ex
  refine ⟨len, fun A outer s H args us vs Q hr e0 b r hsp => ?_⟩
  have hl := len _ _ _ _ hsp
  have KX : K.In s.heap := e0.mod.kin.keeps fun b o e => (e0.bs b o e).1
  have noLim : s.heap.NoLimit := e0.mod.nolimit.keeps fun b o e => (e0.bs b o e).1
  have hf0 := e0.mod.kin _ _ lk
  have pin : L2H.PinOk outer H s (f, ⟨oc, od, .func (PySem.W.fnOf x x (defArgs st) (defBody st) (defScope st) dV kV doc pm an cdv ct), osl⟩) :=
    ⟨KX _ _ lk, (e0.bs _ _ hf0).2, (fun hm => by
      have q := (e0.funs.mem hm).1
      rw [hf0] at q
      cases q), fun v z => by cases z⟩
  have kinds : ∀ y ∈ ps.zip us, (defScope st).names.lookup y.1 = some .local ∨ ((defScope st).names.lookup y.1 = some .cell ∧ ((cellsFrom (s.heap.objs.size + 1) (defScope st).names []).lookup y.1).isSome = true) := fun y hy => by
    rcases S.par y.1 (List.of_mem_zip (b := y.2) hy).1 with q | q
    · exact Or.inl q
    · exact Or.inr ⟨q, PySem.W.cellsFrom_some _ _ _ (Or.inl q)⟩
  refine codeAny_call_function hr.depth (KX _ _ lk) rfl S.co S.gen rfl (PySem.W.codeRec_of KX hcd) (b _ _ _ _ (wpAny_newFunctionEnv_cells S.kind kinds fun env he s1 y => ?_))
  subst he
  refine ⟨noLim.keeps y.toInCall.keep, codeAny_func ?_⟩
  obtain ⟨t, ht, hq⟩ := hb cdv A outer s H vs Q _ (hr.deeper _) hsp
  have I := L2H.inv_startH (CX := L2.CX P w) (E := xNo) S pin e0 hl r y
  refine wpAny_mono (ht.run [] s1 (L2.start N vs) H _ I hq) (fun fl s' hs => ?_) (fun e s' hs => hs)
  match fl, hs with
  | .ret u, hs =>
    obtain ⟨v, σ', H', J, rv, q⟩ := hs
    exact ⟨v, H', J.os, J.bare, J.base, J.hok, rv, q⟩
  | .next, hs =>
    obtain ⟨σ', H', J, q⟩ := hs
    exact ⟨V.non, H', J.os, J.bare, J.base, J.hok, rfl, q⟩
  | .brk, hs =>
    obtain ⟨_, _, _, q⟩ := hs
    exact q.elim
  | .cont, hs =>
    obtain ⟨_, _, _, q⟩ := hs
    exact q.elim
/-- the def x keeps the plain function sem, also within a suite -/
def GoodT (P : Program) (w : World) (K : PySem.W.Frag) (mg : Str → Option Value) (x : Str) (lvl np : Nat) (ps : List Str) (sem : List PV → R) : Prop :=
  ∃ (f : Addr) (fd : FuncData), mg x = some (.ref f) ∧ PySem.W.keepIn K (.ref f) = true ∧ (∀ base : Heap, FnT P w K mg base lvl f fd ps (spOf K mg np sem)) ∧ Binds K fd ps []
theorem goodT_mk {x : Str} {st : Stmt} {f : Addr} {fd : FuncData} {N ps : List Str} {k np : Nat} {body : Lo → Fl} (Fn : FnQ K x st [] f fd) (g : mg x = some (.ref f)) (S : FnScope N ps (defScope st)) (hnp : np = ps.length)
    (hbd : ∀ (kV doc pm : Value) (an : Option Addr) (cdv ct : Value) (us : List Value), us.length = ps.length → bindArgs (PySem.W.fnOf x x (defArgs st) (defBody st) (defScope st) .none kV doc pm an cdv ct) ⟨us, []⟩ = pure (ps.zip us))
    (hb : ∀ (base : Heap) (cdv : Value) (A : Around) (outer : List Env) (s : Shared) (H : Hp) (p : Addr × Obj) (G : Hp × Hp), L2H.RoomH k (A.deeper (envOfC x (defScope st) s.heap.objs.size f cdv)) →
      PSs (cxT P w K mg base N x (defScope st) f cdv A outer s H p) (defBody st) (tSt (cxT P w K mg base N x (defScope st) f cdv A outer s H p) G wNo body)) :
    GoodT P w K mg x (k + 1) np ps (fnSem N.length np body) := by
  refine ⟨f, fd, g, Fn.kp, fun base => ?_, Fn.bindsN hbd⟩
  refine fnT_of Fn S (fun vs H Q E h => ?_) (fun cdv A outer s H vs Q p hr h => ?_)
  · obtain ⟨F, qs, _, r, hl, _⟩ := h
    rw [r.len, hl, hnp]
  · obtain ⟨F, qs, sm, r, hl, po⟩ := h
    refine ⟨_, hb base cdv A outer s H p (F, H) hr, F, _, br_start sm r, ?_⟩
    unfold fnSem at po
    rw [if_pos hl, ← hl] at po
    cases e : body (qs.map Slot.val ++ List.replicate (N.length - qs.length) Slot.none) with
    | nx env => rw [e] at po; exact fun F' H' σ' s' b' => po F' H' _ b'.ext (rp_non.mpr rfl)
    | rt p => rw [e] at po; exact fun F' H' v ex rv => po F' H' v ex rv
    | exc y env => rw [e] at po; exact fun F' H' σ' c d s' b' rx => po F' H' c d b'.ext rx
    | bk env => rw [e] at po; exact po.elim
    | ct env => rw [e] at po; exact po.elim
    | fail => rw [e] at po; exact po.elim
end
section
variable {X : Cx} {G : Hp × Hp} {k lvl np : Nat} {ps : List Str} {x : Str} {p pos : Pos} {e : Expr} {es : List Expr} {fl : Lo → RL} {sem : List PV → R}
theorem pe_callT {f : Addr} {fd : FuncData} {sp : Sp} {t : TA} (F : FnT X.prog X.w X.K X.mg X.base lvl f fd ps sp) (hr : L2H.RoomH lvl X.A) (hg : Gl X x) (hm : X.mg x = some (.ref f)) (hk : PySem.W.keepIn X.K (.ref f) = true) (hb : Binds X.K fd ps [])
    (ha : PA X (e :: es) t) (hdb : (x == ("__debug__" : Str)) = false := by decide) (he : starEach (e :: es) X.env = (false, eval e X.env) :: starEach es X.env := by rfl) (hpl : (backTo pos (starEach es X.env)).any (·.1) = false := by rfl) :
    PE X (.Call (.Name x p) (e :: es) [] pos) (fun σ H Q => t σ H fun vs H1 => sp vs H1 Q xNo) := by
  refine ⟨fun pins s σ H Q I h => ?_⟩
  refine wpAny_Call_Name_kw (ld_glob I hg hm ?_ hdb)
  refine PySem.W.callWith_K (h₀ := X.base) I.ok.mod.kin hk (thn (ha.run pos pins s σ H _ I h) fun us s1 ⟨vs, H1, I1, r, q⟩ => ⟨I1.kIn, ?_⟩) he hpl
  have hl : us.length = ps.length := by rw [← r.length]; exact F.len _ _ _ _ q
  have b := hb s1 us I1.kIn (by rw [List.append_nil]; exact hl)
  rw [List.append_nil] at b
  refine wpAny_call (codeAny_mono (F.go X.A X.stack s1 H1 ⟨us, []⟩ us vs Q hr I1.env0 b r q) fun res s' hq => ?_)
  match res, hq with
  | .error z, hq =>
    obtain ⟨_, _, _, _, _, _, _, _, _, _, _, _, n⟩ := hq
    exact n.elim
  | .ok fl, hq =>
    match fl, hq with
    | .ret u, hq => exact I1.after hq
    | .next, hq => exact hq.elim
    | .brk, hq => exact hq.elim
    | .cont, hq => exact hq.elim
theorem se_fT {A0 : Around} (Gd : GoodT X.prog X.w X.K X.mg x lvl np ps sem) (hr0 : Room k A0) (hd : X.A.depth = A0.depth := by rfl) (hun : X.A.units = A0.units := by rfl) (hl : lvl ≤ k := by decide) (hg : Gl X x := by rfl) (ha : PA X (e :: es) (tA X G wNo fl)) (hdb : (x == ("__debug__" : Str)) = false := by decide) (he : starEach (e :: es) X.env = (false, eval e X.env) :: starEach es X.env := by rfl) (hpl : (backTo pos (starEach es X.env)).any (·.1) = false := by rfl)
    (hnp : ∀ qs, qs.length ≠ np → sem qs = .fail := by intro qs h; exact if_neg h) :
    PE X (.Call (.Name x p) (e :: es) [] pos) (tE X G wNo (eCall sem [] fl)) := by
  obtain ⟨f, fd, g, kp, ok, b0⟩ := Gd
  have hr : L2H.RoomH k X.A := ⟨by rw [hd]; exact hr0.dp, by rw [hun]; exact hr0.un⟩
  refine PE_mono (pe_callT (ok X.base) (hr.mono hl) hg g kp b0 ha hdb he hpl) fun σ H Q h => ?_
  obtain ⟨F, env, br, h⟩ := h
  refine tA_bind br h fun qs vs F1 H1 e1 b1 rp h1 => ?_
  have h1 : PostR X.K X.mg xNo F1 H1 Q (sem (qs ++ [])) := h1
  rw [List.append_nil] at h1
  refine ⟨F1, qs, b1.w, rp, ?_, h1⟩
  exact Decidable.byContradiction fun hn => by rw [hnp _ hn] at h1; exact h1
end
/-! ### isinstance(x, C), x an instance of a class of one's own -/
structure InsC (K : PySem.W.Frag) (C : Addr) : Prop where
  c : Cls K C
  a : PySem.W.findIn K (.ref C) "__class__" = some (some (.builtin "object.__class__"))
  n : PySem.W.specialIn K (.builtin "object.__class__") "__get__" = some (some (.builtin "getset_descriptor.__get__"))
  t : PySem.W.takesIn K (.builtin "object.__class__") = some true
  m : PySem.W.mroIn K C (.type "object") = some true
theorem chkIC_ok {x : Str} {K : PySem.W.Frag} (hc : Cls K (He.ga K x)) (h : chkIC x K = true) : InsC K (He.ga K x) := by
  obtain ⟨h1, h⟩ := He.ba h
  obtain ⟨h2, h⟩ := He.ba h
  obtain ⟨h3, h4⟩ := He.ba h
  exact ⟨hc, of_decide_eq_true h1, of_decide_eq_true h2, of_decide_eq_true h3, of_decide_eq_true h4⟩
def isnR (tbl : List (Str × Bool)) : PV → R
  | .ins c => (match lookB c tbl with
    | some b => .ok (.bl b)
    | none => .fail)
  | _ => .fail
section
variable {X : Cx} {G : Hp × Hp} {W : WX} {a : Expr} {fa : Lo → R} {p p2 pos : Pos} {tbl : List (Str × Bool)}
theorem se_isn {y : Str} {Y : Addr} (hgl : Gl X "isinstance") (hm : X.mg "isinstance" = none) (hgT : Gl X y) (hmT : X.mg y = some (.ref Y)) (ht : ∀ q ∈ tbl, ∃ D, X.mg q.1 = some (.ref D) ∧ InsC X.K D ∧ PySem.W.kitOne X.K (.ref D) (.ref Y) = some q.2) (ha : PE X a (tE X G W fa)) (hdb : (y == ("__debug__" : Str)) = false := by decide)
    (he : starEach [a, .Name y p2] X.env = (false, eval a X.env) :: starEach [.Name y p2] X.env := by rfl) (he2 : starEach [.Name y p2] X.env = [(false, eval (.Name y p2) X.env)] := by rfl) (hpl : (backTo pos (starEach [.Name y p2] X.env)).any (·.1) = false := by rfl) :
    PE X (.Call (.Name "isinstance" p) [a, .Name y p2] [] pos) (tE X G W (e1 (isnR tbl) fa)) := by
  refine PE_mono (pe_callB call_isi hgl hm (by decide +kernel) (pa_cons ha (pa_cons (pe_glob (v := .ref Y) hgT hmT rfl hdb) pa_nil he2) he) (by decide) (by decide) he hpl) fun σ H Q h => ?_
  obtain ⟨F, env, br, h⟩ := h
  refine tE_bind br h fun q u F1 H1 _ e1 b1 rp h1 => ?_
  unfold isnR at h1
  split at h1
  · rename_i c
    split at h1
    · rename_i b e
      obtain ⟨D, hD, C, hk⟩ := ht _ (lookB_mem e)
      obtain ⟨z, D', dx, rfl, hz, hD'⟩ := rp_ins.mp rp
      have eD : D' = D := by
        rw [hD] at hD'
        cases hD'
        rfl
      subst eD
      exact ⟨.ref z, .ref Y, .ref D', .ref Y, b, rfl, .own Y, .base (.ins (b1.w _ _ hz) C.c C.a C.n C.t C.m), hk, h1 F1 H1 _ (Ext.refl b1.w) (rp_bl.mpr rfl)⟩
    · exact h1.elim
  · exact h1.elim
end
/-! ### f(), and {} -/
section
variable {X : Cx} {G : Hp × Hp} {W : WX} {k lvl : Nat} {ps : List Str} {dps : List PV} {x : Str} {p pos : Pos} {sem : List PV → R}
theorem se_f0 (Gd : Good X.prog X.w X.K X.mg x lvl 0 ps sem dps) (hr : Room k X.A) (tk : Takes X W) (hl : lvl ≤ k := by decide) (hg : Gl X x := by rfl) (hdb : (x == ("__debug__" : Str)) = false := by decide) :
    PE X (.Call (.Name x p) [] [] pos) (tE X G W (eCall sem [] aN)) := by
  obtain ⟨f, fd, dvs, ds, g, kp, ok, b0, _, _, _, _⟩ := Gd
  refine ⟨fun pins s σ H Q I h => ?_⟩
  refine wpAny_Call_Name_kw (ld_glob I hg g ?_ hdb)
  refine PySem.W.callWith_K0 I.kIn kp (run_fnSD (us := []) (vs := []) (dvs := []) (ds := []) (ok X.base) (hr.mono hl) b0 .nil (passAt tk σ) I .nil ?_)
  obtain ⟨F, env, br, h⟩ := h
  exact ⟨F, [], br.w, rps_nil, rfl, h⟩
theorem se_dict0 : PE X (.Dict [] [] pos) (tE X G W (eC (.dct [] []))) := by
  refine PE_mono pe_dnewK fun σ H Q h => ?_
  obtain ⟨F, env, br, h⟩ := h
  intro c hc
  exact h _ _ _ (Ext.new br.w hc) (rp_dct.mpr ⟨c, [], rfl, upd_same, rfl, rps_nil⟩)
end
end Nf

namespace Nf
open PySem PySem.Spec PyProof.Rows L2
/-! ### x = x + [..], x a list of one's own, which it stays -/
def sCatO (i : Nat) (fl : Lo → RL) : Lo → Fl := fun env => match env[i]? with
  | some (.ow .none l) => (fl env).go env fun ps => if l.length + ps.length ≤ 100000 then .nx (env.set i (Slot.own (l ++ ps))) else .fail
  | _ => .fail
section
variable {X : Cx} {G : Hp × Hp} {W : WX} {es : List Expr} {fl : Lo → RL} {p1 p2 p3 pos : Pos}
theorem ss_catO (i : Nat) {x : Str} {pos' : Pos} (hN : X.N.Nodup) (he : PA X es (tA X G W fl)) (hi : X.N[i]? = some x := by rfl) (hv : Vis X.env.scope x := by first | exact Or.inl rfl | exact Or.inr (Or.inl rfl) | exact Or.inr (Or.inr rfl)) (hx : Loc X.env.scope x := by first | exact Or.inl rfl | exact Or.inr rfl) (hd : (x == ("__debug__" : Str)) = false := by decide)
    (hcd : (x == ("__classdict__" : Str)) = false := by decide) (hs : swapsWith (.BinOp (.Name x p1) .Add (.List es p2) p3) (some (.Name x pos')) pos.line X.env = pure false := by rfl) (hf : X.fn x = true ∨ X.env.scope.names.lookup x = some .local := by first | exact .inl rfl | exact .inr rfl) :
    PS X (.Assign [.Name x pos'] (.BinOp (.Name x p1) .Add (.List es p2) p3) pos) (tSt X G W (sCatO i fl)) := by
  refine PS_mono (ps_set hN hi hx (pe_op op_cat (pe_var hi hv hd hcd) (pe_lst he)) hs hf) fun D σ H h => ?_
  obtain ⟨F, env, br, h⟩ := h
  unfold sCatO at h
  split at h
  · rename_i l e0
    obtain ⟨a, vs, q1, q2, q3, q4, q5⟩ := br.ownL i l e0
    refine ⟨.ref a, q1, ?_⟩
    refine tA_go br h fun ps us F1 H1 e1 b1 rp h1 => ?_
    split at h1
    · rename_i hl
      have lv := q5.len
      have lu := rp.len
      have sz : sizeLine = 16777216 ∨ 100000 ≤ sizeLine := .inr (by decide)
      have sz : 100000 ≤ sizeLine := by decide
      refine ⟨by omega, fun b hb => ?_⟩
      have ea := e1.h _ _ q4
      have nab : a ≠ b := ne_of_none ea hb
      refine ⟨a, b, vs, us, rfl, rfl, by rw [upd_ne nab]; exact ea, upd_same, by omega, fun c hc => ?_⟩
      have sm : Same H1 (upd H1 b (.lst us)) := same_upd hb
      have b2 := b1.mono (F' := F1) (H' := upd H1 b (.lst us)) ⟨Same.refl _, sm, b1.ext.w.trans sm, fun _ e _ => e⟩
      exact h1 F1 _ _ (Same.refl F1) (b2.setOwn ((q5.mono e1.f).app rp) hc)
    · exact h1.elim
  · exact h.elim
theorem sCatO_app {i : Nat} {env : Lo} {l : List PV} (h : env[i]? = some (Slot.own l)) : sCatO i fl env = (fl env).go env fun ps => if l.length + ps.length ≤ 100000 then .nx (env.set i (Slot.own (l ++ ps))) else .fail := by
  unfold sCatO
  rw [h]
end
end Nf

namespace Nf
open PySem PySem.Spec PyProof.Rows L2 SX
/-! ### is a text, of any length, in a text -/
def foundT (x z : Str) : Bool := !(Builtin.Str.occurrences z x 0 z.length 1).isEmpty
def gInT : PV → PV → R := fun p q => match p, q with
  | .str x, .str z => .ok (.bl (foundT x z))
  | _, _ => .fail
def gNotInT : PV → PV → R := fun p q => match p, q with
  | .str x, .str z => .ok (.bl (!foundT x z))
  | _, _ => .fail
theorem opG_inT {X : Cx} : OpG X (fun x y H Q => ∃ i j, x = .str i ∧ y = .str j ∧ Q (.bl (!(Builtin.Str.occurrences j i 0 j.length 1).isEmpty)) H) gInT := by
  intro W F H Q p q v u w rp rq h
  unfold gInT at h
  split at h
  · rename_i x z
    exact ⟨x, z, rp_str.mp rp, rp_str.mp rq, h F H _ (Ext.refl w) (rp_bl.mpr rfl)⟩
  · exact h.elim
theorem opG_notInT {X : Cx} : OpG X (fun x y H Q => ∃ i j, x = .str i ∧ y = .str j ∧ Q (.bl (!(!(Builtin.Str.occurrences j i 0 j.length 1).isEmpty))) H) gNotInT := by
  intro W F H Q p q v u w rp rq h
  unfold gNotInT at h
  split at h
  · rename_i x z
    exact ⟨x, z, rp_str.mp rp, rp_str.mp rq, h F H _ (Ext.refl w) (rp_bl.mpr rfl)⟩
  · exact h.elim
section
variable {X : Cx} {G : Hp × Hp} {W : WX} {a b : Expr} {fa fb : Lo → R} {pos : Pos}
theorem se_inT (ha : PE X a (tE X G W fa)) (hb : PE X b (tE X G W fb)) (hm : behindInMarks .In b = false := by rfl) : PE X (.Compare a [.In] [b] pos) (tE X G W (e2 gInT fa fb)) := se_cmp op_in_str opG_inT ha hb hm
theorem se_notinT (ha : PE X a (tE X G W fa)) (hb : PE X b (tE X G W fb)) (hm : behindInMarks .NotIn b = false := by rfl) : PE X (.Compare a [.NotIn] [b] pos) (tE X G W (e2 gNotInT fa fb)) := se_cmp op_notin_str opG_notInT ha hb hm
theorem st_inT (ha : PE X a (tE X G W fa)) (hb : PE X b (tE X G W fb)) (hm : behindInMarks .In b = false := by rfl) : PT X (.Compare a [.In] [b] pos) (tT X G W (e2 gInT fa fb)) := st_cmp op_in_str opG_inT ha hb hm
theorem st_notinT (ha : PE X a (tE X G W fa)) (hb : PE X b (tE X G W fb)) (hm : behindInMarks .NotIn b = false := by rfl) : PT X (.Compare a [.NotIn] [b] pos) (tT X G W (e2 gNotInT fa fb)) := st_cmp op_notin_str opG_notInT ha hb hm
end
/-! ### methods of texts with two arguments -/
def tM2 (r : V → List V → Hp → VK → Prop) (to t1 t2 : TE) : TE := fun σ H Q => to σ H fun x H1 => (∃ a, x = .str a) ∧ t1 σ H1 fun y H2 => t2 σ H2 fun z H3 => r x [y, z] H3 Q
section
variable {X : Cx} {o a b : Expr} {to t1 t2 : TE}
theorem pe_m2 {id : String} {name : Str} {apos pos : Pos} {r : V → List V → Hp → VK → Prop} (slot : PySem.Slot "str" name id) (ty : typeOf (.builtin id) = pure (.type "method_descriptor")) (rule : MtR X id r) (ho : PE X o to) (ha : PE X a t1) (hb : PE X b t2)
    (hs : starEach [a, b] X.env = [(false, eval a X.env), (false, eval b X.env)] := by rfl) (hbase : attributeBase o name X.env (eval o X.env) = eval o X.env := by rfl) (hline : (apos.endLine == pos.line) = true := by rfl) :
    PE X (.Call (.Attribute o name apos) [a, b] [] pos) (tM2 r to t1 t2) := by
  refine ⟨fun pins s σ H Q I h => ?_⟩
  refine PySem.Call_method2 hbase hs hline (thn (ho.run pins s σ H _ I h) fun v s1 ⟨x, H1, I1, r1, q1⟩ => ?_)
  obtain ⟨⟨a, rfl⟩, q1⟩ := q1
  obtain ⟨t, rfl⟩ := _root_.id r1
  refine ⟨"str", _, F.plainAttrs_str, slot, ty, typeIs_str _ _ _, (fun _ e => nomatch e), Calls.callWith_builtin rfl (Calls.evalArgs_plain (Calls.spliced_cons ?_))⟩
  refine thn (ha.run pins s1 σ H1 _ I1 q1) fun u s2 ⟨y, H2, I2, r2, q2⟩ => Calls.spliced_cons ?_
  exact thn (hb.run pins s2 σ H2 _ I2 q2) fun u' s3 ⟨z, H3, I3, r3, q3⟩ => Calls.spliced_nil (rule pins s3 σ H3 _ [y, z] _ [u, u'] Q I3 r1 (.cons r2 (.cons r3 .nil)) q3)
end
def eT2 (g : Str → PV → PV → R) (fo f1 f2 : Lo → R) : Lo → R := fun env => (fo env).bind fun p => match p with
  | .str a => (f1 env).bind fun q => (f2 env).bind fun z => g a q z
  | _ => .fail
def T2G (X : Cx) (r : V → List V → Hp → VK → Prop) (g : Str → PV → PV → R) : Prop := ∀ (W : Value → Option Addr → Hp → Prop) (F H : Hp) (Q : VK) (a : Str) (q z : PV) (u u' : V), Same F H → Rp X.K X.mg F q u → Rp X.K X.mg F z u' → PostR X.K X.mg W F H Q (g a q z) → r (.str a) [u, u'] H Q
section
variable {X : Cx} {G : Hp × Hp} {W : WX} {o e1 e2 : Expr} {fo f1 f2 : Lo → R} {apos pos : Pos} {id : String} {name : Str} {r : V → List V → Hp → VK → Prop}
theorem se_t2 {g : Str → PV → PV → R} (slot : PySem.Slot "str" name id) (ty : typeOf (.builtin id) = pure (.type "method_descriptor")) (rule : MtR X id r) (hg : T2G X r g) (ho : PE X o (tE X G W fo)) (h1 : PE X e1 (tE X G W f1)) (h2 : PE X e2 (tE X G W f2))
    (hs : starEach [e1, e2] X.env = [(false, eval e1 X.env), (false, eval e2 X.env)] := by rfl) (hbase : attributeBase o name X.env (eval o X.env) = eval o X.env := by rfl) (hline : (apos.endLine == pos.line) = true := by rfl) :
    PE X (.Call (.Attribute o name apos) [e1, e2] [] pos) (tE X G W (eT2 g fo f1 f2)) := by
  refine PE_mono (pe_m2 slot ty rule ho h1 h2 hs hbase hline) fun σ H Q h => ?_
  obtain ⟨F, env, br, h⟩ := h
  refine tE_bind br h fun p v F1 H1 _ e1 b1 rp h1 => ?_
  cases p with
  | str a =>
    have ev := rp_str.mp rp
    subst ev
    refine ⟨⟨a, rfl⟩, ?_⟩
    refine tE_bind b1 h1 fun q u F2 H2 _ e2 b2 rq h2 => ?_
    refine tE_bind b2 h2 fun z u' F3 H3 _ e3 b3 rz h3 => ?_
    exact hg _ F3 H3 Q a q z u u' b3.w (rq.mono e3.f) rz h3
  | _ => exact h1.elim
end
def gLjustF (a : Str) : PV → PV → R := fun p q => match p, q with
  | .int i, .str f => if PadOk i = true ∧ f.length = 1 then .ok (.str (Txt.ljustF a i (f.cps.getD 0 0))) else .fail
  | _, _ => .fail
def gRjustF (a : Str) : PV → PV → R := fun p q => match p, q with
  | .int i, .str f => if PadOk i = true ∧ f.length = 1 then .ok (.str (Txt.rjustF a i (f.cps.getD 0 0))) else .fail
  | _, _ => .fail
section
variable {X : Cx}
theorem mt_ljustF : MtR X "str.ljust" (fun x xs H Q => ∃ (a : Str) (i : Int) (f : Str), x = .str a ∧ xs = [.int i, .str f] ∧ (PadOk i = true ∧ f.length = 1) ∧ Q (.str (Txt.ljustF a i (f.cps.getD 0 0))) H) := by
  intro pins s σ H x xs v us Q I rx rs h
  obtain ⟨a, i, f, rfl, rfl, hc, h⟩ := h
  obtain ⟨t, rfl⟩ := rx
  cases rs with
  | cons r1 rs =>
    cases rs with
    | cons r2 rs =>
      cases rs
      obtain ⟨u, rfl⟩ := r1
      obtain ⟨z, rfl⟩ := r2
      exact ljust_fill hc.1 hc.2 fun t' k => ⟨.str (Txt.ljustF a i (f.cps.getD 0 0)), H, I.tok k, ⟨t', rfl⟩, h⟩
theorem mt_rjustF : MtR X "str.rjust" (fun x xs H Q => ∃ (a : Str) (i : Int) (f : Str), x = .str a ∧ xs = [.int i, .str f] ∧ (PadOk i = true ∧ f.length = 1) ∧ Q (.str (Txt.rjustF a i (f.cps.getD 0 0))) H) := by
  intro pins s σ H x xs v us Q I rx rs h
  obtain ⟨a, i, f, rfl, rfl, hc, h⟩ := h
  obtain ⟨t, rfl⟩ := rx
  cases rs with
  | cons r1 rs =>
    cases rs with
    | cons r2 rs =>
      cases rs
      obtain ⟨u, rfl⟩ := r1
      obtain ⟨z, rfl⟩ := r2
      exact rjust_fill hc.1 hc.2 fun t' k => ⟨.str (Txt.rjustF a i (f.cps.getD 0 0)), H, I.tok k, ⟨t', rfl⟩, h⟩
theorem t2_ljust : T2G X (fun x xs H Q => ∃ (a : Str) (i : Int) (f : Str), x = .str a ∧ xs = [.int i, .str f] ∧ (PadOk i = true ∧ f.length = 1) ∧ Q (.str (Txt.ljustF a i (f.cps.getD 0 0))) H) gLjustF := by
  intro W F H Q a q z u u' w rq rz h
  unfold gLjustF at h
  split at h
  · rename_i i f
    split at h
    · rename_i hc
      exact ⟨a, i, f, rfl, by rw [rp_int.mp rq, rp_str.mp rz], hc, h F H _ (Ext.refl w) (rp_str.mpr rfl)⟩
    · exact h.elim
  · exact h.elim
theorem t2_rjust : T2G X (fun x xs H Q => ∃ (a : Str) (i : Int) (f : Str), x = .str a ∧ xs = [.int i, .str f] ∧ (PadOk i = true ∧ f.length = 1) ∧ Q (.str (Txt.rjustF a i (f.cps.getD 0 0))) H) gRjustF := by
  intro W F H Q a q z u u' w rq rz h
  unfold gRjustF at h
  split at h
  · rename_i i f
    split at h
    · rename_i hc
      exact ⟨a, i, f, rfl, by rw [rp_int.mp rq, rp_str.mp rz], hc, h F H _ (Ext.refl w) (rp_str.mpr rfl)⟩
    · exact h.elim
  · exact h.elim
end
section
variable {X : Cx} {G : Hp × Hp} {W : WX} {o e1 e2 : Expr} {fo f1 f2 : Lo → R} {apos pos : Pos}
theorem se_ljustF (ho : PE X o (tE X G W fo)) (h1 : PE X e1 (tE X G W f1)) (h2 : PE X e2 (tE X G W f2)) (hs : starEach [e1, e2] X.env = [(false, eval e1 X.env), (false, eval e2 X.env)] := by rfl) (hbase : attributeBase o "ljust" X.env (eval o X.env) = eval o X.env := by rfl) (hline : (apos.endLine == pos.line) = true := by rfl) :
    PE X (.Call (.Attribute o "ljust" apos) [e1, e2] [] pos) (tE X G W (eT2 gLjustF fo f1 f2)) := se_t2 F.slot_str_ljust F.type_str_ljust mt_ljustF t2_ljust ho h1 h2 hs hbase hline
theorem se_rjustF (ho : PE X o (tE X G W fo)) (h1 : PE X e1 (tE X G W f1)) (h2 : PE X e2 (tE X G W f2)) (hs : starEach [e1, e2] X.env = [(false, eval e1 X.env), (false, eval e2 X.env)] := by rfl) (hbase : attributeBase o "rjust" X.env (eval o X.env) = eval o X.env := by rfl) (hline : (apos.endLine == pos.line) = true := by rfl) :
    PE X (.Call (.Attribute o "rjust" apos) [e1, e2] [] pos) (tE X G W (eT2 gRjustF fo f1 f2)) := se_t2 F.slot_str_rjust F.type_str_rjust mt_rjustF t2_rjust ho h1 h2 hs hbase hline
end
end Nf

namespace Nf
open PySem PySem.Spec PyProof.Rows L2
def b_way_of : Lo → Fl :=
    (sSeq (sIf (e2 gEq (eV 0) (eC (.str "even"))) (sRet (eC (.ins "Even"))) sNop)
    (sSeq (sIf (e2 gEq (eV 0) (eC (.str "off"))) (sRet (eC (.ins "Off"))) sNop)
    (sSeq (sIf (e2 gEq (eV 0) (eC (.str "in"))) (sRet (eC (.ins "In"))) sNop)
    (sSeq (sIf (e2 gEq (eV 0) (eC (.str "up"))) (sRet (eC (.ins "Up"))) sNop)
    (sSeq (sIf (e2 gEq (eV 0) (eC (.str "down"))) (sRet (eC (.ins "Down"))) sNop)
    (sRaise "NoWay"))))))
def m_way_of : List PV → R := fnSem 1 1 b_way_of

def b_Even_goes_on : Lo → Fl :=
    (sRet (eOr (e2 gGt (eV 3) (eC (.int 0))) (eAnd (e2 gEq (eV 3) (eC (.int 0))) (eV 2))))
def m_Even_goes_on : List PV → R := fnSem 4 4 b_Even_goes_on

def b_Off_goes_on : Lo → Fl :=
    (sRet (e2 gGe (eV 3) (eC (.int 0))))
def m_Off_goes_on : List PV → R := fnSem 4 4 b_Off_goes_on

def b_Way_goes_on : Lo → Fl :=
    (sRet (eC (.bl false)))
def m_Way_goes_on : List PV → R := fnSem 4 4 b_Way_goes_on

def b_Up_goes_on : Lo → Fl :=
    (sRet (e2 gEq (eV 1) (eC (.int 0))))
def m_Up_goes_on : List PV → R := fnSem 4 4 b_Up_goes_on

def b_Down_goes_on : Lo → Fl :=
    (sRet (e2 gEq (eV 1) (eC (.int 1))))
def m_Down_goes_on : List PV → R := fnSem 4 4 b_Down_goes_on

def t_goes_on : List (Str × (List PV → R)) := [("Even", m_Even_goes_on), ("Off", m_Off_goes_on), ("In", m_Way_goes_on), ("Up", m_Up_goes_on), ("Down", m_Down_goes_on)]
def b_Even_ends : Lo → Fl :=
    (sRet (eC (.bl true)))
def m_Even_ends : List PV → R := fnSem 2 2 b_Even_ends

def b_Off_ends : Lo → Fl :=
    (sRet (eC (.bl true)))
def m_Off_ends : List PV → R := fnSem 2 2 b_Off_ends

def b_Way_ends : Lo → Fl :=
    (sRet (eC (.bl false)))
def m_Way_ends : List PV → R := fnSem 2 2 b_Way_ends

def b_Up_ends : Lo → Fl :=
    (sRet (e2 gEq (eV 1) (eC (.int 0))))
def m_Up_ends : List PV → R := fnSem 2 2 b_Up_ends

def b_Down_ends : Lo → Fl :=
    (sRet (e2 gEq (eV 1) (eC (.int 1))))
def m_Down_ends : List PV → R := fnSem 2 2 b_Down_ends

def t_ends : List (Str × (List PV → R)) := [("Even", m_Even_ends), ("Off", m_Off_ends), ("In", m_Way_ends), ("Up", m_Up_ends), ("Down", m_Down_ends)]
def b_L_cell_41e6 : Lo → Fl :=
    (sSeq (sIf (e2 gLt (eV 1) (eB gLen (aC (eV 0) aN))) (sRet (e2 gIx (eV 0) (eV 1))) sNop)
    (sRet (eC (.int 0))))
def m_L_cell_41e6 : List PV → R := fnSem 2 2 b_L_cell_41e6

def b_L_goes_51bd : Lo → Fl :=
    (sSeq (sIf (e2 gEq (eV 0) (eC (.str "even"))) (sRet (eOr (e2 gEq (eV 3) (eC (.int 1))) (eAnd (e2 gEq (eV 3) (eC (.int 0))) (eV 2)))) sNop)
    (sSeq (sIf (e2 gEq (eV 0) (eC (.str "off"))) (sRet (e2 gNe (eV 3) (e1 gNeg (eC (.int 1))))) sNop)
    (sSeq (sIf (e2 gEq (eV 0) (eC (.str "up"))) (sRet (e2 gEq (eV 1) (eC (.int 0)))) sNop)
    (sRet (eAnd (e2 gEq (eV 0) (eC (.str "down"))) (e2 gEq (eV 1) (eC (.int 1))))))))
def m_L_goes_51bd : List PV → R := fnSem 4 4 b_L_goes_51bd

def b_L_ends_8cc6 : Lo → Fl :=
    (sSeq (sIf (e2 gEq (eV 0) (eC (.str "up"))) (sRet (e2 gEq (eV 1) (eC (.int 0)))) sNop)
    (sSeq (sIf (e2 gEq (eV 0) (eC (.str "down"))) (sRet (e2 gEq (eV 1) (eC (.int 1)))) sNop)
    (sRet (e2 gNe (eV 0) (eC (.str "in"))))))
def m_L_ends_8cc6 : List PV → R := fnSem 2 2 b_L_ends_8cc6

def b_L_as_told_0ce8 : Lo → Fl :=
    (sSeq (sIf (eNot (eTru (e1 (isnR [("Even", true), ("Off", true), ("In", true), ("Up", true), ("Down", true)]) (eV 0)))) (sRet (eC (.bl false))) sNop)
    (sSeq (sSet 5 (eMeth t_goes_on (eV 0) (aC (eV 2) (aC (eV 3) (aC (eV 4) aN)))))
    (sSeq (sIf (eOr (eNot (eTru (eIsi "bool" (eV 5)))) (e2 gNe (eV 5) (eCall m_L_goes_51bd [] (aC (eV 1) (aC (eV 2) (aC (eV 3) (aC (eV 4) aN))))))) (sRet (eC (.bl false))) sNop)
    (sSeq (sSet 5 (eMeth t_ends (eV 0) (aC (eV 2) aN)))
    (sRet (eAnd (eIsi "bool" (eV 5)) (e2 gEq (eV 5) (eCall m_L_ends_8cc6 [] (aC (eV 1) (aC (eV 2) aN))))))))))
def m_L_as_told_0ce8 : List PV → R := fnSem 6 5 b_L_as_told_0ce8

def b_L_made_9a41 : Lo → Fl :=
    (sSeq (sSet 2 (e2 gIx (eV 1) (e2 gMod (eCall m_L_cell_41e6 [] (aC (eV 0) (aC (eC (.int 3)) aN))) (eC (.int 5)))))
    (sSeq (sSet 3 (e2 gMod (eCall m_L_cell_41e6 [] (aC (eV 0) (aC (eC (.int 4)) aN))) (e2 gAdd (eB gLen (aC (eV 2) aN)) (eC (.int 1)))))
    (sSeq (sSet 4 (e2 gAdd (e2 gMulS (eC (.str "abcdefghijklmnopqrstuvwxyz")) (eC (.int 3))) (eC (.str " !\"#$&'()*+,-./0123456789:;<=>?@"))))
    (sSeq (sSet 4 (e2 gAdd (eV 4) (eC (.str "ABCDEFGHIJKLMNOPQRSTUVWXYZ[\\]^_`{|}~\n\t"))))
    (sSeq (sSet 5 (e2 gIx (eV 4) (e2 gMod (eCall m_L_cell_41e6 [] (aC (eV 0) (aC (eC (.int 5)) aN))) (eB gLen (aC (eV 4) aN)))))
    (sSeq (sSet 6 (e2 gMod (eCall m_L_cell_41e6 [] (aC (eV 0) (aC (eC (.int 6)) aN))) (eC (.int 3))))
    (sSeq (sIf (e2 gEq (eV 6) (eC (.int 0))) (sRet (e2 gAdd (e2 gAdd (eSlN gSlS (eV 2) (eV 3)) (eV 5)) (eSlS gSlS (eV 2) (eV 3)))) sNop)
    (sSeq (sIf (e2 gEq (eV 6) (eC (.int 1))) (sRet (e2 gAdd (eSlN gSlS (eV 2) (eV 3)) (eSlS gSlS (eV 2) (e2 gAdd (eV 3) (eC (.int 1)))))) sNop)
    (sRet (e2 gAdd (e2 gAdd (eSlN gSlS (eV 2) (eV 3)) (eV 5)) (eSlS gSlS (eV 2) (e2 gAdd (eV 3) (eC (.int 1))))))))))))))
def m_L_made_9a41 : List PV → R := fnSem 7 2 b_L_made_9a41

def b_L_refused_3790 : Lo → Fl :=
    (sSeq (sSet 1 (eC .non))
    (sSeq (sTry [("NoWay", true)] 2 (sDrop (eCall m_way_of [] (aC (eV 0) aN))) (sSet 1 (eV 2)))
    (sSeq (sSet 3 (eIsx [("NoWay", false)] (eV 1)))
    (sSeq (sIf (eOr (eTru (eV 3)) (eTru (eIsx [("NoWay", false)] (eV 1)))) (sRet (eC (.bl false))) sNop)
    (sRet (eAnd (eIsx [("NoWay", true)] (eV 1)) (eIsx [("NoWay", true)] (eV 1))))))))
def m_L_refused_3790 : List PV → R := fnSem 4 1 b_L_refused_3790

def b_L_kinds_28cb : Lo → Fl :=
    (sSeq (sIf (eOr (eNot (eTru (e1 (isnR [("Even", true), ("Off", false), ("In", false), ("Up", false), ("Down", false)]) (eCall m_way_of [] (aC (eC (.str "even")) aN))))) (eNot (eTru (e1 (isnR [("Even", false), ("Off", true), ("In", false), ("Up", false), ("Down", false)]) (eCall m_way_of [] (aC (eC (.str "off")) aN)))))) (sRet (eC (.bl false))) sNop)
    (sSeq (sIf (eOr (eNot (eTru (e1 (isnR [("Even", false), ("Off", false), ("In", true), ("Up", false), ("Down", false)]) (eCall m_way_of [] (aC (eC (.str "in")) aN))))) (eNot (eTru (e1 (isnR [("Even", false), ("Off", false), ("In", false), ("Up", true), ("Down", false)]) (eCall m_way_of [] (aC (eC (.str "up")) aN)))))) (sRet (eC (.bl false))) sNop)
    (sRet (e1 (isnR [("Even", false), ("Off", false), ("In", false), ("Up", false), ("Down", true)]) (eCall m_way_of [] (aC (eC (.str "down")) aN))))))
def m_L_kinds_28cb : List PV → R := fnSem 0 0 b_L_kinds_28cb

def c_law_k21_1 : Lo → Fl :=
    (sIf (eNot (eTru (eCall m_L_as_told_0ce8 [] (aC (e2 gIx (eV 5) (eV 6)) (aC (e2 gIx (eV 4) (eV 6)) (aC (eV 1) (aC (eV 2) (aC (eV 3) aN)))))))) (sRet (eC (.bl false))) sNop)
def c_law_k21_2 : Lo → Fl :=
    (sIf (eNot (eTru (eCall m_L_as_told_0ce8 [] (aC (eCall m_way_of [] (aC (eV 7) aN)) (aC (eV 7) (aC (eV 1) (aC (eV 2) (aC (eV 3) aN)))))))) (sRet (eC (.bl false))) sNop)
def b_law_k21 : Lo → Fl :=
    (sSeq (sSet 1 (e2 gMod (eCall m_L_cell_41e6 [] (aC (eV 0) (aC (eC (.int 0)) aN))) (eC (.int 2))))
    (sSeq (sSet 2 (e2 gEq (e2 gMod (eCall m_L_cell_41e6 [] (aC (eV 0) (aC (eC (.int 1)) aN))) (eC (.int 2))) (eC (.int 1))))
    (sSeq (sSet 3 (e2 gSub (e2 gMod (eCall m_L_cell_41e6 [] (aC (eV 0) (aC (eC (.int 2)) aN))) (eC (.int 3))) (eC (.int 1))))
    (sSeq (sSet 4 (eLst (aC (eC (.str "even")) (aC (eC (.str "off")) (aC (eC (.str "in")) (aC (eC (.str "up")) (aC (eC (.str "down")) aN)))))))
    (sSeq (sSet 5 (eLst (aC (eC (.ins "Even")) (aC (eC (.ins "Off")) (aC (eC (.ins "In")) (aC (eC (.ins "Up")) (aC (eC (.ins "Down")) aN)))))))
    (sSeq (sFor (iRng1 (eC (.int 5))) (gOne 6) c_law_k21_1)
    (sSeq (sSet 7 (eCall m_L_made_9a41 [] (aC (eV 0) (aC (eV 4) aN))))
    (sSeq (sIf (eAnd (e2 gNotInSeq (eV 7) (eV 4)) (eNot (eTru (eCall m_L_refused_3790 [] (aC (eV 7) aN))))) (sRet (eC (.bl false))) sNop)
    (sSeq (sSet 8 (e2 gIx (eLst (aC (eC .non) (aC (eC (.int 0)) (aC (eC (.int 1)) (aC (eC (.bl true)) (aC (eC (.bl false)) (aC (eLst (aC (eC (.str "even")) aN)) (aC (eTup (aC (eC (.str "up")) aN)) (aC (eC (.dct [] [])) aN))))))))) (e2 gMod (eCall m_L_cell_41e6 [] (aC (eV 0) (aC (eC (.int 7)) aN))) (eC (.int 8)))))
    (sSeq (sIf (eOr (eNot (eTru (eCall m_L_refused_3790 [] (aC (eV 8) aN)))) (eNot (eTru (eCall m_L_kinds_28cb [] aN)))) (sRet (eC (.bl false))) sNop)
    (sSeq (sFor (iSeq (eV 4)) (gOne 7) c_law_k21_2)
    (sRet (eC (.bl true))))))))))))))
def m_law_k21 : List PV → R := fnSem 9 1 b_law_k21

end Nf
namespace Nf
open PySem PySem.Spec PyProof.Rows L2
section
variable {env : Lo} {i j : Int} {b : Bool} {l : List PV} {p q r : PV} {is : List Nat} {f : Lo → R}
theorem truB : truP (.bl b) = .ok (.bl b) := nrfl
theorem gMany_eqL (h : l.length = is.length) : gMany is (.lst l) env = some (setMany is l env) := if_pos h
theorem gMany_eq (h : l.length = is.length) : gMany is (.tup l) env = some (setMany is l env) := if_pos h
theorem ixt0 : gIx (.tup (p :: l)) (.int 0) = .ok p := ix_tup 0 rfl
theorem ixt1 : gIx (.tup (p :: q :: l)) (.int 1) = .ok q := ix_tup 1 rfl
theorem ixt2 : gIx (.tup (p :: q :: r :: l)) (.int 2) = .ok r := ix_tup 2 rfl
theorem ixl0 : gIx (.lst (p :: l)) (.int 0) = .ok p := ix_lst 0 rfl
theorem ixl1 : gIx (.lst (p :: q :: l)) (.int 1) = .ok q := ix_lst 1 rfl
theorem ixl2 : gIx (.lst (p :: q :: r :: l)) (.int 2) = .ok r := ix_lst 2 rfl
theorem ixl3 {p0 p1 p2 p3 : PV} : gIx (.lst (p0 :: p1 :: p2 :: p3 :: l)) (.int 3) = .ok p3 := ix_lst 3 rfl
theorem ixl4 {p0 p1 p2 p3 p4 : PV} : gIx (.lst (p0 :: p1 :: p2 :: p3 :: p4 :: l)) (.int 4) = .ok p4 := ix_lst 4 rfl
theorem ixl5 {p0 p1 p2 p3 p4 p5 : PV} : gIx (.lst (p0 :: p1 :: p2 :: p3 :: p4 :: p5 :: l)) (.int 5) = .ok p5 := ix_lst 5 rfl
theorem ixl6 {p0 p1 p2 p3 p4 p5 p6 : PV} : gIx (.lst (p0 :: p1 :: p2 :: p3 :: p4 :: p5 :: p6 :: l)) (.int 6) = .ok p6 := ix_lst 6 rfl
theorem ixl7 {p0 p1 p2 p3 p4 p5 p6 p7 : PV} : gIx (.lst (p0 :: p1 :: p2 :: p3 :: p4 :: p5 :: p6 :: p7 :: l)) (.int 7) = .ok p7 := ix_lst 7 rfl
theorem ixl8 {p0 p1 p2 p3 p4 p5 p6 p7 p8 : PV} : gIx (.lst (p0 :: p1 :: p2 :: p3 :: p4 :: p5 :: p6 :: p7 :: p8 :: l)) (.int 8) = .ok p8 := ix_lst 8 rfl
theorem ixl9 {p0 p1 p2 p3 p4 p5 p6 p7 p8 p9 : PV} : gIx (.lst (p0 :: p1 :: p2 :: p3 :: p4 :: p5 :: p6 :: p7 :: p8 :: p9 :: l)) (.int 9) = .ok p9 := ix_lst 9 rfl
theorem ixl10 {p0 p1 p2 p3 p4 p5 p6 p7 p8 p9 p10 : PV} : gIx (.lst (p0 :: p1 :: p2 :: p3 :: p4 :: p5 :: p6 :: p7 :: p8 :: p9 :: p10 :: l)) (.int 10) = .ok p10 := ix_lst 10 rfl
theorem ixl11 {p0 p1 p2 p3 p4 p5 p6 p7 p8 p9 p10 p11 : PV} : gIx (.lst (p0 :: p1 :: p2 :: p3 :: p4 :: p5 :: p6 :: p7 :: p8 :: p9 :: p10 :: p11 :: l)) (.int 11) = .ok p11 := ix_lst 11 rfl
theorem ixt3 {p0 p1 p2 p3 : PV} : gIx (.tup (p0 :: p1 :: p2 :: p3 :: l)) (.int 3) = .ok p3 := ix_tup 3 rfl
theorem ixt4 {p0 p1 p2 p3 p4 : PV} : gIx (.tup (p0 :: p1 :: p2 :: p3 :: p4 :: l)) (.int 4) = .ok p4 := ix_tup 4 rfl
theorem tupok (h : l.length ≤ 100000) : (if l.length ≤ 100000 then R.ok (.tup l) else R.fail) = .ok (.tup l) := if_pos h
theorem lstok (h : l.length ≤ 100000) : (if l.length ≤ 100000 then R.ok (.lst l) else R.fail) = .ok (.lst l) := if_pos h
theorem isNon_int : isNon (.int i) = false := nrfl
theorem isNon_non : isNon .non = true := nrfl
theorem isNon_tup : isNon (.tup l) = false := nrfl
theorem isNon_lst : isNon (.lst l) = false := nrfl
theorem setMany_nil' : setMany [] l env = env := by cases l <;> rfl
end
/-! ### loops -/
/-! ### a shape: e from 2 to 11, m from 2 to 60 -/
class Se (e : Int) : Prop where
  lo : 2 ≤ e
  hi : e ≤ 11
class Sm (m : Int) : Prop where
  lo : 2 ≤ m
  hi : m ≤ 60
instance {e : Int} [h : Se e] : Ub 11 e := ⟨h.hi⟩
instance {m : Int} [h : Sm m] : Ub 60 m := ⟨h.hi⟩
instance {e : Int} [h : Se e] : Sb 4 e := .nn (by have := h.lo; omega) (by have := h.hi; omega)
instance {m : Int} [h : Sm m] : Sb 6 m := .nn (by have := h.lo; omega) (by have := h.hi; omega)
abbrev shp (e m : Int) : PV := .tup [.int e, .int m]

/-! ### loops by their bodies -/
theorem iRng1_ok {f : Lo → R} {env : Lo} {j : Int} (h : f env = .ok (.int j)) (h0 : -100000 ≤ j) (h1 : j ≤ 100000) : iRng1 f env = .ok (rngL 0 j.toNat) := by
  rw [iRng1_app, h]
  show (if -(2 ^ 62) ≤ j ∧ j < 2 ^ 62 then RL.ok (rngL 0 j.toNat) else RL.fail) = _
  rw [if_pos ⟨by omega, by omega⟩]
def rng2 (i j : Int) : RL := .ok (rngL i (j - i).toNat)
theorem itOf_lst {l : List PV} : itOf (.lst l) = .ok l := nrfl
theorem itOf_tup {l : List PV} : itOf (.tup l) = .ok l := nrfl
end Nf

namespace Nf
open PySem PySem.Spec PyProof.Rows L2
/-! ### == of lists and tuples of whole numbers -/
theorem ds_ints : ∀ is : List Int, dsOf (is.map .int) = some (is.map PyData.int)
  | [] => rfl
  | i :: is => by
    rw [List.map_cons, List.map_cons]
    simp only [dsOf, ds_ints is, dOf]
theorem lay_ints : ∀ is : List Int, PyData.canLayAll0 (is.map PyData.int) = true
  | [] => by simp only [List.map_nil, PyData.canLayAll0]
  | i :: is => by simp only [List.map_cons, PyData.canLayAll0, PyData.canLay0, lay_ints is, Bool.and_self]
theorem eqv_ints : ∀ is js : List Int, PyData.eqvAll (is.map PyData.int) (js.map PyData.int) = decide (is = js)
  | [], [] => by simp only [List.map_nil, PyData.eqvAll, decide_true]
  | [], j :: js => by simp [PyData.eqvAll]
  | i :: is, [] => by simp [PyData.eqvAll]
  | i :: is, j :: js => by
    simp only [List.map_cons, PyData.eqvAll, PyData.eqv, eqv_ints is js, List.cons.injEq]
    by_cases h : i = j
    · subst h; simp
    · simp [h]
theorem dep_ints : ∀ is : List Int, PyData.depthAll (is.map PyData.int) ≤ 1
  | [] => by simp [PyData.depthAll]
  | i :: is => by
    have := dep_ints is
    simp only [List.map_cons, PyData.depthAll, PyData.depth]
    omega
theorem sh_l (is : List Int) : SeqAt.shaped (.list (is.map PyData.int)) = true := by
  unfold SeqAt.shaped
  have h := dep_ints is
  simp only [PyData.canLay0, lay_ints, PyData.depth, Bool.true_and]
  exact decide_eq_true (by first | omega | trace_state)
theorem sh_t (is : List Int) : SeqAt.shaped (.tuple (is.map PyData.int)) = true := by
  unfold SeqAt.shaped
  have h := dep_ints is
  simp only [PyData.canLay0, lay_ints, PyData.depth, Bool.true_and]
  exact decide_eq_true (by first | omega | trace_state)
theorem eqP_l (is js : List Int) : eqP (.lst (is.map .int)) (.lst (js.map .int)) = some (decide (is = js)) := by
  show eqD _ _ = _
  unfold eqD
  simp only [dOf, ds_ints, Option.map_some, sh_l, and_self, if_true, PyData.eqv, eqv_ints]
theorem eqP_t (is js : List Int) : eqP (.tup (is.map .int)) (.tup (js.map .int)) = some (decide (is = js)) := by
  show eqD _ _ = _
  unfold eqD
  simp only [dOf, ds_ints, Option.map_some, sh_t, and_self, if_true, PyData.eqv, eqv_ints]
section
variable {is js : List Int} {a b c a' b' c' : Int}
theorem gEq_li : gEq (.lst (is.map .int)) (.lst (js.map .int)) = .ok (.bl (decide (is = js))) := by unfold gEq; rw [show ∀ a b, eqQ (.lst a) (.lst b) = eqP (.lst a) (.lst b) from fun _ _ => rfl, eqP_l]
theorem gNe_li : gNe (.lst (is.map .int)) (.lst (js.map .int)) = .ok (.bl (!decide (is = js))) := by unfold gNe; rw [eqP_l]
theorem gEq_ti : gEq (.tup (is.map .int)) (.tup (js.map .int)) = .ok (.bl (decide (is = js))) := by unfold gEq; rw [show ∀ a b, eqQ (.tup a) (.tup b) = eqP (.tup a) (.tup b) from fun _ _ => rfl, eqP_t]
theorem gNe_ti : gNe (.tup (is.map .int)) (.tup (js.map .int)) = .ok (.bl (!decide (is = js))) := by unfold gNe; rw [eqP_t]
theorem gNe_l0 : gNe (.lst []) (.lst []) = .ok (.bl false) := gNe_li (is := []) (js := [])
theorem gEq_l0 : gEq (.lst []) (.lst []) = .ok (.bl true) := gEq_li (is := []) (js := [])
theorem gNe_t2 : gNe (.tup [.int a, .int b]) (.tup [.int a', .int b']) = .ok (.bl (!decide (a = a' ∧ b = b'))) := by
  refine (gNe_ti (is := [a, b]) (js := [a', b'])).trans ?_
  simp only [List.cons.injEq, and_true]
theorem gEq_t2 : gEq (.tup [.int a, .int b]) (.tup [.int a', .int b']) = .ok (.bl (decide (a = a' ∧ b = b'))) := by
  refine (gEq_ti (is := [a, b]) (js := [a', b'])).trans ?_
  simp only [List.cons.injEq, and_true]
theorem gNe_t3 : gNe (.tup [.int a, .int b, .int c]) (.tup [.int a', .int b', .int c']) = .ok (.bl (!decide (a = a' ∧ b = b' ∧ c = c'))) := by
  refine (gNe_ti (is := [a, b, c]) (js := [a', b', c'])).trans ?_
  simp only [List.cons.injEq, and_true]
theorem gEq_t3 : gEq (.tup [.int a, .int b, .int c]) (.tup [.int a', .int b', .int c']) = .ok (.bl (decide (a = a' ∧ b = b' ∧ c = c'))) := by
  refine (gEq_ti (is := [a, b, c]) (js := [a', b', c'])).trans ?_
  simp only [List.cons.injEq, and_true]
end
/-! ### comprehensions -/
def lcGo : R → R → RL → RL
  | .ok (.bl true), .ok q, .ok qs => .ok (q :: qs)
  | .ok (.bl false), _, r => r
  | _, _, _ => .fail
def lcFin : RL → R
  | .ok qs => .ok (.lst qs)
  | _ => .fail
section
variable {it : Lo → RL} {own : List Nat} {gg : PV → Lo → Option Lo} {tt te : Lo → R} {env : Lo} {l ps qs : List PV} {p q : PV} {i : Nat} {r : RL} {x : R}
theorem eLc_app : eLc it own gg tt te env = (it env).bind fun l => if l.length ≤ 100000 then lcFin (lcL gg tt te (wipeL own env) l) else .fail := by
  unfold eLc
  congr 1
theorem lcsize (h : l.length ≤ 100000) : (if l.length ≤ 100000 then x else R.fail) = x := if_pos h
theorem lc_bind {f : List PV → R} : (RL.ok l).bind f = f l := nrfl
theorem lcL_nil : lcL gg tt te env [] = .ok [] := nrfl
theorem lcL_one : lcL (gOne i) tt te env (p :: ps) = lcGo (tt (env.set i (Slot.val p))) (te (env.set i (Slot.val p))) (lcL (gOne i) tt te env ps) := by
  simp only [lcL, gOne_app]
  cases tt (env.set i (Slot.val p)) with
  | ok b =>
    cases b with
    | bl b =>
      cases b
      · rfl
      · cases te (env.set i (Slot.val p)) with
        | ok q => cases lcL (gOne i) tt te env ps <;> rfl
        | exc x => rfl
        | fail => rfl
    | non => rfl
    | int i => rfl
    | str x => rfl
    | tup l => rfl
    | lst l => rfl
    | ins c => rfl
    | exn c fs => rfl
    | dct _ _ => rfl
  | exc x => rfl
  | fail => rfl
theorem lcGo_f : lcGo (.ok (.bl false)) x r = r := by cases x <;> cases r <;> rfl
theorem lcGo_t : lcGo (.ok (.bl true)) (.ok q) (.ok qs) = .ok (q :: qs) := nrfl
theorem lcFin_ok : lcFin (.ok qs) = .ok (.lst qs) := nrfl
theorem wipe_nil : wipeL [] env = env := nrfl
theorem wipe_cons {j : Nat} {js : List Nat} : wipeL (j :: js) env = (wipeL js env).set j Slot.none := nrfl
end
/-! ### slices -/
section
variable {f fl fh : Lo → R} {g : PV → Option Int → Option Int → R} {env : Lo} {l : List PV} {lo hi : Option Int} {i : Int} {k : Int → R}
theorem eSlB_app : eSlB g f fl fh env = (f env).bind fun p => bindI (fl env) fun i => bindI (fh env) fun j => g p (some i) (some j) := nrfl
theorem eSlS_app : eSlS g f fl env = (f env).bind fun p => bindI (fl env) fun i => g p (some i) none := nrfl
theorem eSlN_app : eSlN g f fh env = (f env).bind fun p => bindI (fh env) fun j => g p none (some j) := nrfl
theorem bindI_ok : bindI (.ok (.int i)) k = k i := nrfl
theorem gSlL_lst : gSlL (.lst l) lo hi = .ok (.lst (cutP l lo hi)) := nrfl
end
/-! ### keywords -/
def RL.app2 (a b : RL) : RL := a.bindL fun ps => b.bindL fun qs => .ok (ps ++ qs)
theorem aApp_app {fl fk : Lo → RL} {env : Lo} : aApp fl fk env = RL.app2 (fl env) (fk env) := nrfl
theorem app2_ok {ps qs : List PV} : RL.app2 (.ok ps) (.ok qs) = .ok (ps ++ qs) := nrfl
theorem app2_exc {x : PX} {b : RL} : RL.app2 (.exc x) b = .exc x := nrfl
/-! ### isinstance -/
def isiR (T : String) (p : PV) : R := match tyN p with
  | some t => match kitB t T with
    | some b => .ok (.bl b)
    | none => .fail
  | none => .fail
theorem eIsi2 {T : String} {f : Lo → R} {env : Lo} : eIsi T f env = R.b1 (isiR T) (f env) := nrfl
theorem isR_non_int : isiR "int" .non = .ok (.bl false) := by
  show (match kitB "NoneType" "int" with
    | some b => R.ok (.bl b)
    | none => .fail) = _
  rw [show kitB "NoneType" "int" = some false by decide +kernel]
theorem isR_non_bool : isiR "bool" .non = .ok (.bl false) := by
  show (match kitB "NoneType" "bool" with
    | some b => R.ok (.bl b)
    | none => .fail) = _
  rw [show kitB "NoneType" "bool" = some false by decide +kernel]
theorem isR_non_str : isiR "str" .non = .ok (.bl false) := by
  show (match kitB "NoneType" "str" with
    | some b => R.ok (.bl b)
    | none => .fail) = _
  rw [show kitB "NoneType" "str" = some false by decide +kernel]
theorem isR_non_tuple : isiR "tuple" .non = .ok (.bl false) := by
  show (match kitB "NoneType" "tuple" with
    | some b => R.ok (.bl b)
    | none => .fail) = _
  rw [show kitB "NoneType" "tuple" = some false by decide +kernel]
theorem isR_non_list : isiR "list" .non = .ok (.bl false) := by
  show (match kitB "NoneType" "list" with
    | some b => R.ok (.bl b)
    | none => .fail) = _
  rw [show kitB "NoneType" "list" = some false by decide +kernel]
theorem isR_bl_int {b : Bool} : isiR "int" (.bl b) = .ok (.bl true) := by
  show (match kitB "bool" "int" with
    | some b => R.ok (.bl b)
    | none => .fail) = _
  rw [show kitB "bool" "int" = some true by decide +kernel]
theorem isR_bl_bool {b : Bool} : isiR "bool" (.bl b) = .ok (.bl true) := by
  show (match kitB "bool" "bool" with
    | some b => R.ok (.bl b)
    | none => .fail) = _
  rw [show kitB "bool" "bool" = some true by decide +kernel]
theorem isR_bl_str {b : Bool} : isiR "str" (.bl b) = .ok (.bl false) := by
  show (match kitB "bool" "str" with
    | some b => R.ok (.bl b)
    | none => .fail) = _
  rw [show kitB "bool" "str" = some false by decide +kernel]
theorem isR_bl_tuple {b : Bool} : isiR "tuple" (.bl b) = .ok (.bl false) := by
  show (match kitB "bool" "tuple" with
    | some b => R.ok (.bl b)
    | none => .fail) = _
  rw [show kitB "bool" "tuple" = some false by decide +kernel]
theorem isR_bl_list {b : Bool} : isiR "list" (.bl b) = .ok (.bl false) := by
  show (match kitB "bool" "list" with
    | some b => R.ok (.bl b)
    | none => .fail) = _
  rw [show kitB "bool" "list" = some false by decide +kernel]
theorem isR_int_int {i : Int} : isiR "int" (.int i) = .ok (.bl true) := by
  show (match kitB "int" "int" with
    | some b => R.ok (.bl b)
    | none => .fail) = _
  rw [show kitB "int" "int" = some true by decide +kernel]
theorem isR_int_bool {i : Int} : isiR "bool" (.int i) = .ok (.bl false) := by
  show (match kitB "int" "bool" with
    | some b => R.ok (.bl b)
    | none => .fail) = _
  rw [show kitB "int" "bool" = some false by decide +kernel]
theorem isR_int_str {i : Int} : isiR "str" (.int i) = .ok (.bl false) := by
  show (match kitB "int" "str" with
    | some b => R.ok (.bl b)
    | none => .fail) = _
  rw [show kitB "int" "str" = some false by decide +kernel]
theorem isR_int_tuple {i : Int} : isiR "tuple" (.int i) = .ok (.bl false) := by
  show (match kitB "int" "tuple" with
    | some b => R.ok (.bl b)
    | none => .fail) = _
  rw [show kitB "int" "tuple" = some false by decide +kernel]
theorem isR_int_list {i : Int} : isiR "list" (.int i) = .ok (.bl false) := by
  show (match kitB "int" "list" with
    | some b => R.ok (.bl b)
    | none => .fail) = _
  rw [show kitB "int" "list" = some false by decide +kernel]
theorem isR_str_int {x : Str} : isiR "int" (.str x) = .ok (.bl false) := by
  show (match kitB "str" "int" with
    | some b => R.ok (.bl b)
    | none => .fail) = _
  rw [show kitB "str" "int" = some false by decide +kernel]
theorem isR_str_bool {x : Str} : isiR "bool" (.str x) = .ok (.bl false) := by
  show (match kitB "str" "bool" with
    | some b => R.ok (.bl b)
    | none => .fail) = _
  rw [show kitB "str" "bool" = some false by decide +kernel]
theorem isR_str_str {x : Str} : isiR "str" (.str x) = .ok (.bl true) := by
  show (match kitB "str" "str" with
    | some b => R.ok (.bl b)
    | none => .fail) = _
  rw [show kitB "str" "str" = some true by decide +kernel]
theorem isR_str_tuple {x : Str} : isiR "tuple" (.str x) = .ok (.bl false) := by
  show (match kitB "str" "tuple" with
    | some b => R.ok (.bl b)
    | none => .fail) = _
  rw [show kitB "str" "tuple" = some false by decide +kernel]
theorem isR_str_list {x : Str} : isiR "list" (.str x) = .ok (.bl false) := by
  show (match kitB "str" "list" with
    | some b => R.ok (.bl b)
    | none => .fail) = _
  rw [show kitB "str" "list" = some false by decide +kernel]
theorem isR_tup_int {l : List PV} : isiR "int" (.tup l) = .ok (.bl false) := by
  show (match kitB "tuple" "int" with
    | some b => R.ok (.bl b)
    | none => .fail) = _
  rw [show kitB "tuple" "int" = some false by decide +kernel]
theorem isR_tup_bool {l : List PV} : isiR "bool" (.tup l) = .ok (.bl false) := by
  show (match kitB "tuple" "bool" with
    | some b => R.ok (.bl b)
    | none => .fail) = _
  rw [show kitB "tuple" "bool" = some false by decide +kernel]
theorem isR_tup_str {l : List PV} : isiR "str" (.tup l) = .ok (.bl false) := by
  show (match kitB "tuple" "str" with
    | some b => R.ok (.bl b)
    | none => .fail) = _
  rw [show kitB "tuple" "str" = some false by decide +kernel]
theorem isR_tup_tuple {l : List PV} : isiR "tuple" (.tup l) = .ok (.bl true) := by
  show (match kitB "tuple" "tuple" with
    | some b => R.ok (.bl b)
    | none => .fail) = _
  rw [show kitB "tuple" "tuple" = some true by decide +kernel]
theorem isR_tup_list {l : List PV} : isiR "list" (.tup l) = .ok (.bl false) := by
  show (match kitB "tuple" "list" with
    | some b => R.ok (.bl b)
    | none => .fail) = _
  rw [show kitB "tuple" "list" = some false by decide +kernel]
theorem isR_lst_int {l : List PV} : isiR "int" (.lst l) = .ok (.bl false) := by
  show (match kitB "list" "int" with
    | some b => R.ok (.bl b)
    | none => .fail) = _
  rw [show kitB "list" "int" = some false by decide +kernel]
theorem isR_lst_bool {l : List PV} : isiR "bool" (.lst l) = .ok (.bl false) := by
  show (match kitB "list" "bool" with
    | some b => R.ok (.bl b)
    | none => .fail) = _
  rw [show kitB "list" "bool" = some false by decide +kernel]
theorem isR_lst_str {l : List PV} : isiR "str" (.lst l) = .ok (.bl false) := by
  show (match kitB "list" "str" with
    | some b => R.ok (.bl b)
    | none => .fail) = _
  rw [show kitB "list" "str" = some false by decide +kernel]
theorem isR_lst_tuple {l : List PV} : isiR "tuple" (.lst l) = .ok (.bl false) := by
  show (match kitB "list" "tuple" with
    | some b => R.ok (.bl b)
    | none => .fail) = _
  rw [show kitB "list" "tuple" = some false by decide +kernel]
theorem isR_lst_list {l : List PV} : isiR "list" (.lst l) = .ok (.bl true) := by
  show (match kitB "list" "list" with
    | some b => R.ok (.bl b)
    | none => .fail) = _
  rw [show kitB "list" "list" = some true by decide +kernel]
theorem natlit (n : Nat) : ((no_index (OfNat.ofNat n) : Nat) : Int) = OfNat.ofNat n := rfl
/-! ### exceptions -/
section
variable {x : PX} {p q : PV} {ps : List PV} {r : R} {rl : RL} {u : PV → R} {op : PV → PV → R} {gl : List PV → R} {a b : R} {env e : Lo} {s t : Lo → Fl} {f : Lo → R} {tbl ms : List (Str × Bool)} {c : Str} {i : Nat}
theorem cons_exc1 : RL.cons (.exc x) rl = .exc x := by cases rl <;> rfl
theorem cons_exc2 : RL.cons (.ok p) (.exc x) = .exc x := nrfl
theorem b_exc : RL.b gl (.exc x) = .exc x := nrfl
theorem b1_exc : R.b1 u (.exc x) = .exc x := nrfl
theorem b2_exc1 : R.b2 op (.exc x) r = .exc x := by cases r <;> rfl
theorem b2_exc2 : R.b2 op (.ok p) (.exc x) = .exc x := nrfl
theorem br_exc : R.br (.exc x) a b = .exc x := nrfl
theorem brS_exc : R.brS (.exc x) env s t = .exc x env := nrfl
/-- a try's ways on -/
def tryGo (ms : List (Str × Bool)) (i : Nat) (s : Lo → Fl) : Fl → Fl
  | .exc x e => match lookB x.c ms with
    | some true => match s (e.set i (Slot.val (exnOf x))) with
      | .nx e2 => .nx (e2.set i Slot.none)
      | .bk e2 => .bk (e2.set i Slot.none)
      | .ct e2 => .ct (e2.set i Slot.none)
      | .rt p => .rt p
      | _ => .fail
    | some false => .exc x e
    | none => .fail
  | r => r
def tryEnd (i : Nat) : Fl → Fl
  | .nx e2 => .nx (e2.set i Slot.none)
  | .bk e2 => .bk (e2.set i Slot.none)
  | .ct e2 => .ct (e2.set i Slot.none)
  | .rt p => .rt p
  | _ => .fail
theorem sTry_app : sTry ms i s t env = tryGo ms i t (s env) := by
  unfold sTry tryGo
  cases s env <;> rfl
theorem tryGo_nx : tryGo ms i s (.nx e) = .nx e := nrfl
theorem tryGo_rt : tryGo ms i s (.rt p) = .rt p := nrfl
theorem tryGo_exc (h : lookB c ms = some true) : tryGo ms i s (.exc ⟨c, none⟩ e) = tryEnd i (s (e.set i (Slot.val (.exn c [])))) := by
  unfold tryGo
  dsimp only
  rw [h]
  dsimp only [exnOf]
  cases s (e.set i (Slot.val (.exn c []))) <;> rfl
theorem tryEnd_nx : tryEnd i (.nx e) = .nx (e.set i Slot.none) := nrfl
theorem tryEnd_rt : tryEnd i (.rt p) = .rt p := nrfl
theorem eIsx_app : eIsx tbl f env = R.b1 (isxR tbl) (f env) := nrfl
theorem isx_t (h : lookB c tbl = some true) : isxR tbl (.exn c []) = .ok (.bl true) := by
  show (match lookB c tbl with
    | some b => R.ok (.bl b)
    | none => .fail) = _
  rw [h]
theorem isx_f (h : lookB c tbl = some false) : isxR tbl (.exn c []) = .ok (.bl false) := by
  show (match lookB c tbl with
    | some b => R.ok (.bl b)
    | none => .fail) = _
  rw [h]
theorem isNon_exn : isNon (.exn c ps) = false := nrfl
theorem isNon_bl {b : Bool} : isNon (.bl b) = false := nrfl
theorem isNon_str {z : Str} : isNon (.str z) = false := nrfl
end
end Nf

namespace Nf
open PySem PySem.Spec PyProof.Rows L2
/-! ### lists of one's own -/
def newGo (r : RL) (env : Lo) (i : Nat) : Fl := r.go env fun ps => if ps.length ≤ 100000 then .nx (env.set i (Slot.own ps)) else .fail
def appGo (o : Option Slot) (r : R) (env : Lo) (i : Nat) : Fl := match o with
  | some (.ow .none l) => r.go env fun p => if l.length < 100000 then .nx (env.set i (Slot.own (l ++ [p]))) else .fail
  | _ => .fail
def frzGo (o : Option Slot) (s : Lo → Fl) (env : Lo) (i : Nat) : Fl := match o with
  | some (.ow .none l) => s (env.set i (Slot.val (.lst l)))
  | some (.ow (.some ks) l) => s (env.set i (Slot.val (.dct ks l)))
  | _ => s env
def methGo (tbl : List (Str × (List PV → R))) (r : R) (rl : RL) : R := r.bind fun p => match p with
  | .ins c => match lookC c tbl with
    | some sem => rl.bind fun ps => sem (.ins c :: ps)
    | none => .fail
  | _ => .fail
section
variable {env e : Lo} {i : Nat} {f : Lo → R} {fl : Lo → RL} {s t : Lo → Fl} {p q : PV} {ps l : List PV} {tbl : List (Str × (List PV → R))} {c : Str} {sem : List PV → R}
theorem sNew_app : sNew i fl env = newGo (fl env) env i := nrfl
theorem new_ok : newGo (.ok ps) env i = if ps.length ≤ 100000 then .nx (env.set i (Slot.own ps)) else .fail := nrfl
theorem sApp_app : sApp i f env = appGo env[i]? (f env) env i := by
  unfold sApp appGo
  cases env[i]? with
  | none => rfl
  | some z => cases z <;> rfl
theorem app_ok : appGo (some (Slot.own l)) (.ok p) env i = if l.length + 1 ≤ 100000 then .nx (env.set i (Slot.own (l ++ [p]))) else .fail := by
  show (if l.length < 100000 then Fl.nx (env.set i (Slot.own (l ++ [p]))) else .fail) = _
  by_cases h : l.length < 100000
  · exact (if_pos h).trans (if_pos h).symm
  · exact (if_neg h).trans (if_neg h).symm
theorem sFrz_app : sFrz i s env = frzGo env[i]? s env i := nrfl
theorem frz_own : frzGo (some (Slot.own l)) s env i = s (env.set i (Slot.val (.lst l))) := nrfl
theorem frz_val : frzGo (some (Slot.val p)) s env i = s env := nrfl
theorem frz_none : frzGo (some Slot.none) s env i = s env := nrfl
theorem eMeth_app : eMeth tbl f fl env = methGo tbl (f env) (fl env) := nrfl
theorem meth_ok (h : lookC c tbl = some sem) : methGo tbl (.ok (.ins c)) (.ok ps) = sem (.ins c :: ps) := by
  show (match lookC c tbl with
    | some sem => (RL.ok ps).bind fun ps => sem (.ins c :: ps)
    | none => R.fail) = _
  rw [h]
  rfl
end
/-! ### branches come to the front -/
section
variable {c : Prop} [Decidable c] {env : Lo} {i : Nat} {a b : Fl} {t : Lo → Fl} {s u : Lo → Fl} {x y z w : R} {g : PV → R} {op : PV → PV → R} {p : PV} {ps : List PV} {k l : RL} {gl : List PV → R}
end
end Nf

namespace Nf
open PySem PySem.Spec PyProof.Rows L2
/-! ### dicts -/
def optR : Option PV → R
  | some p => .ok p
  | none => .fail
def getR (o : Option Key) (ks : List Key) (l : List PV) : R := match o with
  | some k => optR (lookK ks l k)
  | none => .fail
def putR (o : Option Key) (ks : List Key) (l : List PV) (p : PV) (env : Lo) (i : Nat) : Fl := match o with
  | some k => if ks.length + 1 ≤ 100000 then .nx (env.set i (putD ks l k p)) else .fail
  | none => .fail
section
variable {env : Lo} {i : Nat} {ks : List Key} {l ps : List PV} {p q : PV} {k k2 : Key} {x : Str} {n : Int}
theorem keyP_str : keyP (.str x) = some (.inr x) := nrfl
theorem keyP_int : keyP (.int n) = some (.inl n) := nrfl
theorem optR_some : optR (some p) = .ok p := nrfl
theorem getR_some : getR (some k) ks l = optR (lookK ks l k) := nrfl
theorem lookK_hit : lookK (k :: ks) (p :: ps) k = some p := if_pos rfl
theorem lookK_miss (h : k ≠ k2) : lookK (k :: ks) (p :: ps) k2 = lookK ks ps k2 := if_neg h
theorem get_own : getGo (some (Slot.owd ks l)) (.ok q) = getR (keyP q) ks l := by
  unfold getGo getR
  simp only [R.bind_ok]
  cases keyP q with
  | none => rfl
  | some k =>
    show (match lookK ks l k with
      | some p => R.ok p
      | none => R.fail) = optR (lookK ks l k)
    cases lookK ks l k <;> rfl
theorem get_val : getGo (some (Slot.val (.dct ks l))) (.ok q) = getR (keyP q) ks l := by
  unfold getGo getR
  simp only [R.bind_ok]
  cases keyP q with
  | none => rfl
  | some k =>
    show (match lookK ks l k with
      | some p => R.ok p
      | none => R.fail) = optR (lookK ks l k)
    cases lookK ks l k <;> rfl
theorem gIxD_dct : gIxD (.dct ks l) q = getR (keyP q) ks l := by
  unfold gIxD getR
  cases keyP q with
  | none => rfl
  | some k =>
    show (match lookK ks l k with
      | some p => R.ok p
      | none => R.fail) = optR (lookK ks l k)
    cases lookK ks l k <;> rfl
theorem put_own : putGo (some (Slot.owd ks l)) (.ok p) (.ok q) env i = putR (keyP q) ks l p env i := nrfl
theorem putR_some (h : ks.length + 1 ≤ 100000) : putR (some k) ks l p env i = .nx (env.set i (putD ks l k p)) := if_pos h
theorem look_no : ∀ {ks : List Key} {l : List PV} {k : Key}, k ∉ ks → lookK ks l k = none
  | [], l, _, _ => by cases l <;> rfl
  | _ :: _, [], _, _ => rfl
  | k :: ks, p :: ps, q, h => by
    rw [lookK_miss (fun e => h (by rw [e]; exact List.mem_cons_self))]
    exact look_no fun e => h (List.mem_cons_of_mem _ e)
theorem putD_new (h : k ∉ ks) : putD ks l k p = Slot.owd (ks ++ [k]) (l ++ [p]) := by
  unfold putD
  rw [look_no h]
  exact if_neg (by decide)
theorem frz_owd {s : Lo → Fl} : frzGo (some (Slot.owd ks l)) s env i = s (env.set i (Slot.val (.dct ks l))) := nrfl
end
end Nf

namespace Nf
open PySem PySem.Spec PyProof.Rows L2
/-! ### caught exceptions with a field; texts -/
def R.t0 (g : Str → R) (r : R) : R := r.bind fun p => match p with
  | .str a => g a
  | _ => .fail
def R.t1 (g : Str → PV → R) (r s : R) : R := r.bind fun p => match p with
  | .str a => s.bind fun q => g a q
  | _ => .fail
def RL.sg (r : R) : RL := r.bindL fun p => match p with
  | .str x => .ok (signsP x)
  | _ => .fail
section
variable {tbl : List (Str × Bool)} {f g : Lo → R} {env : Lo} {c n x : Str} {fs : List PV} {cs : List Str} {u q : PV} {h : Str → R} {k : Str → PV → R}
theorem eIsy_app : eIsy tbl f env = R.b1 (isyR tbl) (f env) := nrfl
theorem isy_t (h : lookB c tbl = some true) : isyR tbl (.exn c fs) = .ok (.bl true) := by
  show (match lookB c tbl with
    | some b => R.ok (.bl b)
    | none => .fail) = _
  rw [h]
theorem isy_f (h : lookB c tbl = some false) : isyR tbl (.exn c fs) = .ok (.bl false) := by
  show (match lookB c tbl with
    | some b => R.ok (.bl b)
    | none => .fail) = _
  rw [h]
theorem xf_hit (h : cs.contains c = true) : xfR n cs (.exn c [.str n, u]) = .ok u := by
  show (if n = n ∧ c ∈ cs then R.ok u else .fail) = _
  rw [if_pos ⟨rfl, by simpa using h⟩]
theorem eT0_app : eT0 h f env = R.t0 h (f env) := nrfl
theorem eT1_app : eT1 k f g env = R.t1 k (f env) (g env) := nrfl
theorem t0_ok : R.t0 h (.ok (.str x)) = h x := nrfl
theorem t1_ok : R.t1 k (.ok (.str x)) (.ok q) = k x q := nrfl
theorem iStrS_app : iStrS f env = RL.sg (f env) := nrfl
theorem sg_ok : RL.sg (.ok (.str x)) = .ok (signsP x) := nrfl
theorem tryGo_excO {ms : List (Str × Bool)} {i : Nat} {s : Lo → Fl} {e : Lo} (h : lookB c ms = some true) : tryGo ms i s (.exc ⟨c, some (n, u)⟩ e) = tryEnd i (s (e.set i (Slot.val (.exn c [.str n, u])))) := by
  unfold tryGo
  dsimp only
  rw [h]
  dsimp only [exnOf]
  cases s (e.set i (Slot.val (.exn c [.str n, u]))) <;> rfl
theorem sRaiseO_app : sRaiseO c n f env = (f env).go env fun p => .exc ⟨c, some (n, p)⟩ env := nrfl
end
/-! ### a def's new list -/
def R.nf2 (r : R) (i : Nat) (env : Lo) : Fl := match r with
  | .ok (.lst l) => .nx (env.set i (Slot.own l))
  | .exc x => .exc x env
  | _ => .fail
def RL.nf (r : RL) (i : Nat) (sem : List PV → R) (env : Lo) : Fl := r.go env fun ps => R.nf2 (sem ps) i env
section
variable {i j : Nat} {sem : List PV → R} {fl : Lo → RL} {env : Lo} {ps l : List PV} {f : Lo → R} {p : PV}
theorem sNewF_app : sNewF i sem fl env = RL.nf (fl env) i sem env := nrfl
theorem nf_ok : RL.nf (.ok ps) i sem env = R.nf2 (sem ps) i env := nrfl
theorem nf2_ok : R.nf2 (.ok (.lst l)) i env = .nx (env.set i (Slot.own l)) := nrfl
def borGo (o : Option Slot) (i : Nat) (f : Lo → R) (env : Lo) : R := match o with
  | some (.ow d l) => (match f (env.set i (Slot.val (frzOf d l))) with
    | .ok p => if plainP p = true then .ok p else .fail
    | _ => .fail)
  | _ => f env
def plR (r : R) : R := match r with
  | .ok p => if plainP p = true then .ok p else .fail
  | _ => .fail
theorem eBor_go : eBor i f env = borGo env[i]? i f env := nrfl
theorem bor_own : borGo (some (Slot.own l)) i f env = plR (f (env.set i (Slot.val (.lst l)))) := nrfl
theorem bor_val : borGo (some (Slot.val p)) i f env = f env := nrfl
theorem plR_bl {b : Bool} : plR (.ok (.bl b)) = .ok (.bl b) := nrfl
theorem plR_int {b : Int} : plR (.ok (.int b)) = .ok (.int b) := nrfl
def lbGo (o : Option Slot) (i : Nat) (env : Lo) : Fl := match o with
  | some (.ow .none l) => .nx (env.set i (Slot.own l))
  | _ => .fail
theorem sNewLB_app : sNewLB i j env = lbGo env[j]? i env := nrfl
theorem lb_own : lbGo (some (Slot.own l)) i env = .nx (env.set i (Slot.own l)) := nrfl
def fbGo (o : Option Slot) (i j : Nat) (sem : List PV → R) (fl : Lo → RL) (env : Lo) : Fl := match o with
  | some (.ow d l0) => (match fl (env.set j (Slot.val (frzOf d l0))) with
    | .ok ps => (match sem ps with
      | .ok (.lst l) => if l.all plainP = true then .nx (env.set i (Slot.own l)) else .fail
      | _ => .fail)
    | _ => .fail)
  | _ => .fail
def RL.fb (r : RL) (i : Nat) (sem : List PV → R) (env : Lo) : Fl := match r with
  | .ok ps => (match sem ps with
      | .ok (.lst l) => if l.all plainP = true then .nx (env.set i (Slot.own l)) else .fail
      | _ => .fail)
  | _ => .fail
def R.fb2 (r : R) (i : Nat) (env : Lo) : Fl := match r with
      | .ok (.lst l) => if l.all plainP = true then .nx (env.set i (Slot.own l)) else .fail
      | _ => .fail
theorem sNewFB_app : sNewFB i j sem fl env = fbGo env[j]? i j sem fl env := nrfl
theorem fb_own : fbGo (some (Slot.own l)) i j sem fl env = RL.fb (fl (env.set j (Slot.val (.lst l)))) i sem env := nrfl
theorem fb_ok : RL.fb (.ok ps) i sem env = R.fb2 (sem ps) i env := nrfl
end
end Nf

namespace Nf
open PySem PySem.Spec PyProof.Rows L2
local macro_rules | `(tactic| walk_at "nfd") => `(tactic| (first | exact cmul_of (by decide +kernel) | exact cshl (by omega) (by decide +kernel) | assumption | omega | exact P_pos _ | exact nopyP (by decide +kernel) | exact nopy_small (by decide +kernel) | decide +kernel | (refine id ?_; with_unfolding_all rfl)))
/-! ### heights -/
/-- the height of a size -/
def hgt (m s : Int) : Int := if s / P m = 0 then s % P m else (P m + s % P m) * P (s / P m - 1)
section
variable {e m : Int} [E : Se e] [M : Sm m]
end
end Nf

namespace Nf
open PySem PySem.Spec PyProof.Rows L2
local macro_rules | `(tactic| walk_at "nfd") => `(tactic| (first | exact cmul_of (by decide +kernel) | exact cshl (by omega) (by decide +kernel) | assumption | omega | exact P_pos _ | exact nopyP (by decide +kernel) | exact nopy_small (by decide +kernel) | decide +kernel | (refine id ?_; with_unfolding_all rfl)))
/-! ### the laws' own helpers: a cell, a whole number, a shape, bits -/
/-- the script's cells are not too long -/
def Cells (ns : List Int) : Prop := ∀ z ∈ ns, Builtin.Int.intBits z ≤ 1048576
theorem gd_in {ns : List Int} {k : Nat} (h : k < ns.length) : ns.getD k 0 = ns[k] := by rw [List.getD_eq_getElem?_getD, List.getElem?_eq_getElem h]; rfl
theorem gd_out {ns : List Int} {k : Nat} (h : ns.length ≤ k) : ns.getD k 0 = 0 := by rw [List.getD_eq_getElem?_getD, List.getElem?_eq_none h]; rfl
theorem Cells.at {ns : List Int} (h : Cells ns) (k : Nat) : Sb 1048576 (ns.getD k 0) := by
  by_cases hk : k < ns.length
  · rw [gd_in hk]
    exact ⟨h _ (List.getElem_mem hk)⟩
  · rw [gd_out (show ns.length ≤ k by omega)]
    exact ⟨by decide +kernel⟩
theorem ixc {ns : List Int} {k : Nat} (h : k < ns.length) : gIx (.lst (ns.map .int)) (.int (k : Nat)) = .ok (.int (ns.getD k 0)) :=
  ix_lst k (by rw [List.getElem?_map, List.getElem?_eq_getElem h, gd_in h]; rfl)
theorem sp_L_cell {ns : List Int} (k : Nat) : m_L_cell_41e6 [.lst (ns.map .int), .int (k : Nat)] = .ok (.int (ns.getD k 0)) := by
  unfold m_L_cell_41e6 b_L_cell_41e6
  by_cases h : k < ns.length
  · have h' : (k : Int) < ((ns.length : Nat) : Int) := by omega
    simp (disch := walk_at "nfd") only [gIsB_bl, gIsNotB_bl, gList_lst, gList_tup, fn_app, List.map_cons, List.map_nil, List.cons_append, List.nil_append, List.append_nil, List.replicate, List.length_cons, List.length_nil, Nat.reduceSub, Nat.reduceAdd, sSeq_app, sSet_app, sRet_app, sIf_app, sNop_app, sRaise_app, e2_app, e1_app, eV_app, eC_app, eB_app, aC_app, aN_app, eTup_app, eLst_app, eCall0_app, eCall_app, eAnd_app, eOr_app, eNot_app, eIf_app, eChain_app, List.getElem?_cons_zero, List.getElem?_cons_succ, slotR, b2_ok, b1_ok, cons_ok, b_ok, set_ok, ret_ok, seq_nx, seq_rt, seq_exc, out_rt, out_nx, out_exc, List.set_cons_zero, List.set_cons_succ, R.go_ok, R.bind_ok, R.bindL_ok, RL.go_ok, sFor_app, iSeq_app, itOf_lst, itOf_tup, br_true, br_false, br_dec, brS_true, brS_false, brS_dec, truB, eTru_app, gAdd_int, gSub_int, gMul_int, gMod_pos, gFdiv_pos, gDivmod_pos, gShl_P, gShr_P, gAnd_int, gOr_int, gXor_int, gLt_int, gLe_int, gGt_int, gGe_int, gEq_int, gNe_int, gNeg_int, gLen_tup, gLen_lst, gMax_int, gMin_int, gAbs_int, gInt_int, gIs_non, gIsNot_non, eIsi2, isR_non_int, isR_non_bool, isR_non_str, isR_non_tuple, isR_non_list, isR_bl_int, isR_bl_bool, isR_bl_str, isR_bl_tuple, isR_bl_list, isR_int_int, isR_int_bool, isR_int_str, isR_int_tuple, isR_int_list, isR_str_int, isR_str_bool, isR_str_str, isR_str_tuple, isR_str_list, isR_tup_int, isR_tup_bool, isR_tup_str, isR_tup_tuple, isR_tup_list, isR_lst_int, isR_lst_bool, isR_lst_str, isR_lst_tuple, isR_lst_list, natlit, sTgt_app, gMany_eq, gMany_eqL, setMany_cons, setMany_nil, setMany_nil', ixt0, ixt1, ixt2, ixl0, ixl1, ixl2, ixl3, ixl4, ixl5, ixl6, ixl7, ixl8, ixl9, ixl10, ixl11, ixt3, ixt4, tupok, lstok, isNon_int, isNon_non, isNon_tup, isNon_lst, Bool.not_true, Bool.not_false, decide_true, decide_false, Bool.not_eq_true, decide_eq_true_eq, Bool.not_eq_eq_eq_not, Nat.reduceLeDiff, reduceIte, Int.reduceEq, Int.reduceLT, Int.reduceLE, Int.reduceAdd, Int.reduceSub, Int.reduceMul, Int.reduceNeg, Int.reduceMod, Int.reduceDiv, eLc_app, lcsize, lc_bind, lcL_nil, lcL_one, lcGo_f, lcGo_t, lcFin_ok, wipe_nil, wipe_cons, gNe_l0, gEq_l0, gNe_t2, gEq_t2, gNe_t3, gEq_t3, gEq_str, gNe_str, gEq_bl, gNe_bl, aApp_app, app2_ok, app2_exc, cons_exc1, cons_exc2, b_exc, b1_exc, b2_exc1, b2_exc2, br_exc, brS_exc, R.bind_exc, R.bindL_exc, RL.bind_exc, R.go_exc, RL.go_exc, ret_exc, set_exc, sTry_app, tryGo_nx, tryGo_rt, tryGo_exc, tryEnd_nx, tryEnd_rt, eIsx_app, isx_t, isx_f, isNon_exn, isNon_bl, isNon_str, sDrop_app, gInt_bl, sNew_app, new_ok, sApp_app, app_ok, sFrz_app, frz_own, frz_val, frz_none, eMeth_app, eSlB_app, eSlS_app, eSlN_app, sNewD_app, sPutD_app, eGetD_app, iRev_app, itRv_lst, itRv_tup, gRevL_lst, gVals_dct, gSorted_ints, gSum_ints, gMin3_int, keyP_str, keyP_int, optR_some, getR_some, lookK_hit, lookK_miss, get_own, get_val, gIxD_dct, put_own, putR_some, putD_new, frz_owd, bindI_ok, gSlL_lst, Bool.false_eq_true, and_self, and_true, true_and, List.length_map, h', ixc h]
  · have h' : ¬ (k : Int) < ((ns.length : Nat) : Int) := by omega
    rw [gd_out (show ns.length ≤ k by omega)]
    simp (disch := walk_at "nfd") only [gIsB_bl, gIsNotB_bl, gList_lst, gList_tup, fn_app, List.map_cons, List.map_nil, List.cons_append, List.nil_append, List.append_nil, List.replicate, List.length_cons, List.length_nil, Nat.reduceSub, Nat.reduceAdd, sSeq_app, sSet_app, sRet_app, sIf_app, sNop_app, sRaise_app, e2_app, e1_app, eV_app, eC_app, eB_app, aC_app, aN_app, eTup_app, eLst_app, eCall0_app, eCall_app, eAnd_app, eOr_app, eNot_app, eIf_app, eChain_app, List.getElem?_cons_zero, List.getElem?_cons_succ, slotR, b2_ok, b1_ok, cons_ok, b_ok, set_ok, ret_ok, seq_nx, seq_rt, seq_exc, out_rt, out_nx, out_exc, List.set_cons_zero, List.set_cons_succ, R.go_ok, R.bind_ok, R.bindL_ok, RL.go_ok, sFor_app, iSeq_app, itOf_lst, itOf_tup, br_true, br_false, br_dec, brS_true, brS_false, brS_dec, truB, eTru_app, gAdd_int, gSub_int, gMul_int, gMod_pos, gFdiv_pos, gDivmod_pos, gShl_P, gShr_P, gAnd_int, gOr_int, gXor_int, gLt_int, gLe_int, gGt_int, gGe_int, gEq_int, gNe_int, gNeg_int, gLen_tup, gLen_lst, gMax_int, gMin_int, gAbs_int, gInt_int, gIs_non, gIsNot_non, eIsi2, isR_non_int, isR_non_bool, isR_non_str, isR_non_tuple, isR_non_list, isR_bl_int, isR_bl_bool, isR_bl_str, isR_bl_tuple, isR_bl_list, isR_int_int, isR_int_bool, isR_int_str, isR_int_tuple, isR_int_list, isR_str_int, isR_str_bool, isR_str_str, isR_str_tuple, isR_str_list, isR_tup_int, isR_tup_bool, isR_tup_str, isR_tup_tuple, isR_tup_list, isR_lst_int, isR_lst_bool, isR_lst_str, isR_lst_tuple, isR_lst_list, natlit, sTgt_app, gMany_eq, gMany_eqL, setMany_cons, setMany_nil, setMany_nil', ixt0, ixt1, ixt2, ixl0, ixl1, ixl2, ixl3, ixl4, ixl5, ixl6, ixl7, ixl8, ixl9, ixl10, ixl11, ixt3, ixt4, tupok, lstok, isNon_int, isNon_non, isNon_tup, isNon_lst, Bool.not_true, Bool.not_false, decide_true, decide_false, Bool.not_eq_true, decide_eq_true_eq, Bool.not_eq_eq_eq_not, Nat.reduceLeDiff, reduceIte, Int.reduceEq, Int.reduceLT, Int.reduceLE, Int.reduceAdd, Int.reduceSub, Int.reduceMul, Int.reduceNeg, Int.reduceMod, Int.reduceDiv, eLc_app, lcsize, lc_bind, lcL_nil, lcL_one, lcGo_f, lcGo_t, lcFin_ok, wipe_nil, wipe_cons, gNe_l0, gEq_l0, gNe_t2, gEq_t2, gNe_t3, gEq_t3, gEq_str, gNe_str, gEq_bl, gNe_bl, aApp_app, app2_ok, app2_exc, cons_exc1, cons_exc2, b_exc, b1_exc, b2_exc1, b2_exc2, br_exc, brS_exc, R.bind_exc, R.bindL_exc, RL.bind_exc, R.go_exc, RL.go_exc, ret_exc, set_exc, sTry_app, tryGo_nx, tryGo_rt, tryGo_exc, tryEnd_nx, tryEnd_rt, eIsx_app, isx_t, isx_f, isNon_exn, isNon_bl, isNon_str, sDrop_app, gInt_bl, sNew_app, new_ok, sApp_app, app_ok, sFrz_app, frz_own, frz_val, frz_none, eMeth_app, eSlB_app, eSlS_app, eSlN_app, sNewD_app, sPutD_app, eGetD_app, iRev_app, itRv_lst, itRv_tup, gRevL_lst, gVals_dct, gSorted_ints, gSum_ints, gMin3_int, keyP_str, keyP_int, optR_some, getR_some, lookK_hit, lookK_miss, get_own, get_val, gIxD_dct, put_own, putR_some, putD_new, frz_owd, bindI_ok, gSlL_lst, Bool.false_eq_true, and_self, and_true, true_and, List.length_map, h']
/-! ### bits put together of sign, rank and body -/
section
variable {e m : Int} [E : Se e] [M : Sm m]
end
end Nf

namespace Nf
open PySem PySem.Spec PyProof.Rows L2
local macro_rules | `(tactic| walk_at "nfd") => `(tactic| (first | exact cmul_of (by decide +kernel) | exact cshl (by omega) (by decide +kernel) | assumption | omega | exact P_pos _ | exact nopyP (by decide +kernel) | exact nopy_small (by decide +kernel) | decide +kernel | (refine id ?_; with_unfolding_all rfl)))
/-! ### words are told apart -/
theorem words_ne : (("nought" : Str) = "small") = False ∧ (("nought" : Str) = "plain") = False ∧ (("nought" : Str) = "end") = False ∧ (("nought" : Str) = "loud") = False ∧ (("nought" : Str) = "still") = False ∧ (("small" : Str) = "nought") = False ∧ (("small" : Str) = "plain") = False ∧ (("small" : Str) = "end") = False ∧ (("small" : Str) = "loud") = False ∧ (("small" : Str) = "still") = False ∧ (("plain" : Str) = "nought") = False ∧ (("plain" : Str) = "small") = False ∧ (("plain" : Str) = "end") = False ∧ (("plain" : Str) = "loud") = False ∧ (("plain" : Str) = "still") = False ∧ (("end" : Str) = "nought") = False ∧ (("end" : Str) = "small") = False ∧ (("end" : Str) = "plain") = False ∧ (("end" : Str) = "loud") = False ∧ (("end" : Str) = "still") = False ∧ (("loud" : Str) = "nought") = False ∧ (("loud" : Str) = "small") = False ∧ (("loud" : Str) = "plain") = False ∧ (("loud" : Str) = "end") = False ∧ (("loud" : Str) = "still") = False ∧ (("still" : Str) = "nought") = False ∧ (("still" : Str) = "small") = False ∧ (("still" : Str) = "plain") = False ∧ (("still" : Str) = "end") = False ∧ (("still" : Str) = "loud") = False ∧ (("even" : Str) = "off") = False ∧ (("even" : Str) = "in") = False ∧ (("even" : Str) = "up") = False ∧ (("even" : Str) = "down") = False ∧ (("off" : Str) = "even") = False ∧ (("off" : Str) = "in") = False ∧ (("off" : Str) = "up") = False ∧ (("off" : Str) = "down") = False ∧ (("in" : Str) = "even") = False ∧ (("in" : Str) = "off") = False ∧ (("in" : Str) = "up") = False ∧ (("in" : Str) = "down") = False ∧ (("up" : Str) = "even") = False ∧ (("up" : Str) = "off") = False ∧ (("up" : Str) = "in") = False ∧ (("up" : Str) = "down") = False ∧ (("down" : Str) = "even") = False ∧ (("down" : Str) = "off") = False ∧ (("down" : Str) = "in") = False ∧ (("down" : Str) = "up") = False ∧ (("near" : Str) = "faint") = False ∧ (("near" : Str) = "over") = False ∧ (("near" : Str) = "void") = False ∧ (("near" : Str) = "odd") = False ∧ (("faint" : Str) = "near") = False ∧ (("faint" : Str) = "over") = False ∧ (("faint" : Str) = "void") = False ∧ (("faint" : Str) = "odd") = False ∧ (("over" : Str) = "near") = False ∧ (("over" : Str) = "faint") = False ∧ (("over" : Str) = "void") = False ∧ (("over" : Str) = "odd") = False ∧ (("void" : Str) = "near") = False ∧ (("void" : Str) = "faint") = False ∧ (("void" : Str) = "over") = False ∧ (("void" : Str) = "odd") = False ∧ (("odd" : Str) = "near") = False ∧ (("odd" : Str) = "faint") = False ∧ (("odd" : Str) = "over") = False ∧ (("odd" : Str) = "void") = False ∧ (("apart" : Str) = "same") = False ∧ (("apart" : Str) = "less") = False ∧ (("apart" : Str) = "more") = False ∧ (("same" : Str) = "apart") = False ∧ (("same" : Str) = "less") = False ∧ (("same" : Str) = "more") = False ∧ (("less" : Str) = "apart") = False ∧ (("less" : Str) = "same") = False ∧ (("less" : Str) = "more") = False ∧ (("more" : Str) = "apart") = False ∧ (("more" : Str) = "same") = False ∧ (("more" : Str) = "less") = False ∧ (("plus" : Str) = "times") = False ∧ (("plus" : Str) = "quotient") = False ∧ (("times" : Str) = "plus") = False ∧ (("times" : Str) = "quotient") = False ∧ (("quotient" : Str) = "plus") = False ∧ (("quotient" : Str) = "times") = False ∧ (("harmless" : Str) = "harmful") = False ∧ (("harmless" : Str) = "open") = False ∧ (("harmful" : Str) = "harmless") = False ∧ (("harmful" : Str) = "open") = False ∧ (("open" : Str) = "harmless") = False ∧ (("open" : Str) = "harmful") = False := by
  refine ⟨eq_false (by decide +kernel), eq_false (by decide +kernel), eq_false (by decide +kernel), eq_false (by decide +kernel), eq_false (by decide +kernel), eq_false (by decide +kernel), eq_false (by decide +kernel), eq_false (by decide +kernel), eq_false (by decide +kernel), eq_false (by decide +kernel), eq_false (by decide +kernel), eq_false (by decide +kernel), eq_false (by decide +kernel), eq_false (by decide +kernel), eq_false (by decide +kernel), eq_false (by decide +kernel), eq_false (by decide +kernel), eq_false (by decide +kernel), eq_false (by decide +kernel), eq_false (by decide +kernel), eq_false (by decide +kernel), eq_false (by decide +kernel), eq_false (by decide +kernel), eq_false (by decide +kernel), eq_false (by decide +kernel), eq_false (by decide +kernel), eq_false (by decide +kernel), eq_false (by decide +kernel), eq_false (by decide +kernel), eq_false (by decide +kernel), eq_false (by decide +kernel), eq_false (by decide +kernel), eq_false (by decide +kernel), eq_false (by decide +kernel), eq_false (by decide +kernel), eq_false (by decide +kernel), eq_false (by decide +kernel), eq_false (by decide +kernel), eq_false (by decide +kernel), eq_false (by decide +kernel), eq_false (by decide +kernel), eq_false (by decide +kernel), eq_false (by decide +kernel), eq_false (by decide +kernel), eq_false (by decide +kernel), eq_false (by decide +kernel), eq_false (by decide +kernel), eq_false (by decide +kernel), eq_false (by decide +kernel), eq_false (by decide +kernel), eq_false (by decide +kernel), eq_false (by decide +kernel), eq_false (by decide +kernel), eq_false (by decide +kernel), eq_false (by decide +kernel), eq_false (by decide +kernel), eq_false (by decide +kernel), eq_false (by decide +kernel), eq_false (by decide +kernel), eq_false (by decide +kernel), eq_false (by decide +kernel), eq_false (by decide +kernel), eq_false (by decide +kernel), eq_false (by decide +kernel), eq_false (by decide +kernel), eq_false (by decide +kernel), eq_false (by decide +kernel), eq_false (by decide +kernel), eq_false (by decide +kernel), eq_false (by decide +kernel), eq_false (by decide +kernel), eq_false (by decide +kernel), eq_false (by decide +kernel), eq_false (by decide +kernel), eq_false (by decide +kernel), eq_false (by decide +kernel), eq_false (by decide +kernel), eq_false (by decide +kernel), eq_false (by decide +kernel), eq_false (by decide +kernel), eq_false (by decide +kernel), eq_false (by decide +kernel), eq_false (by decide +kernel), eq_false (by decide +kernel), eq_false (by decide +kernel), eq_false (by decide +kernel), eq_false (by decide +kernel), eq_false (by decide +kernel), eq_false (by decide +kernel), eq_false (by decide +kernel), eq_false (by decide +kernel), eq_false (by decide +kernel), eq_false (by decide +kernel), eq_false (by decide +kernel)⟩
section
variable {e m : Int} [E : Se e] [M : Sm m]
/-- the other sign -/
def trn (h b : Int) : Int := if h ≤ b then b - h else b + h
end
end Nf

namespace Nf
open PySem PySem.Spec PyProof.Rows L2
local macro_rules | `(tactic| walk_at "nfd") => `(tactic| (first | exact cmul_of (by decide +kernel) | exact cshl (by omega) (by decide +kernel) | assumption | omega | exact P_pos _ | exact nopyP (by decide +kernel) | exact nopy_small (by decide +kernel) | decide +kernel | (refine id ?_; with_unfolding_all rfl)))
/-! ### laws over two shapes by turns -/
def IsShp (p : PV) : Prop := ∃ e m, p = shp e m ∧ Se e ∧ Sm m
/-! ### parts of bits -/
section
variable {e m : Int} [E : Se e] [M : Sm m]
end
end Nf

namespace Nf
open PySem PySem.Spec PyProof.Rows L2
local macro_rules | `(tactic| walk_at "nfd") => `(tactic| (first | exact cmul_of (by decide +kernel) | exact cshl (by omega) (by decide +kernel) | assumption | omega | exact P_pos _ | exact nopyP (by decide +kernel) | exact nopy_small (by decide +kernel) | decide +kernel | (refine id ?_; with_unfolding_all rfl)))
section
variable {e m : Int} [E : Se e] [M : Sm m]
/-! ### kinds -/
def kindw (e m z : Int) : Str := if z = 0 then "nought" else if z < P m then "small" else if z < P (e + m) - P m then "plain" else if z = P (e + m) - P m then "end" else if z < P (e + m) - P m + P (m - 1) then "loud" else "still"
/-! ### heights rise -/
end
end Nf

namespace Nf
open PySem PySem.Spec PyProof.Rows L2
local macro_rules | `(tactic| walk_at "nfd") => `(tactic| (first | exact cmul_of (by decide +kernel) | exact cshl (by omega) (by decide +kernel) | assumption | omega | exact P_pos _ | exact nopyP (by decide +kernel) | exact nopy_small (by decide +kernel) | decide +kernel | (refine id ?_; with_unfolding_all rfl)))
/-! ### neighbours -/
section
variable {e m : Int}
theorem dv0 {z : Int} (z0 : 0 ≤ z) (z1 : z < P (e + m)) : z / P (e + m) = 0 ∧ z % P (e + m) = z := ⟨Int.ediv_eq_zero_of_lt z0 z1, Int.emod_eq_of_lt z0 z1⟩
theorem dv1 {z : Int} (z0 : 0 ≤ z) (z1 : z < P (e + m)) : (P (e + m) + z) / P (e + m) = 1 ∧ (P (e + m) + z) % P (e + m) = z := by
  have h := P_pos (e + m)
  constructor
  · rw [show P (e + m) + z = z + P (e + m) * 1 by omega, Int.add_mul_ediv_left _ _ (by omega), Int.ediv_eq_zero_of_lt z0 z1]
    rfl
  · rw [show P (e + m) + z = z + P (e + m) * 1 by omega, Int.add_mul_emod_self_left, Int.emod_eq_of_lt z0 z1]
/-- bits are a size, or a size and the greatest place -/
theorem bits_cases {b : Int} (h0 : 0 ≤ b) (h1 : b < 2 * P (e + m)) : ∃ z, 0 ≤ z ∧ z < P (e + m) ∧ (z = b ∨ P (e + m) + z = b) := by
  by_cases h : b < P (e + m)
  · exact ⟨b, h0, h, .inl rfl⟩
  · exact ⟨b - P (e + m), by omega, by omega, .inr (by omega)⟩
/-- the next ones -/
def nup (e m b : Int) : Int := if b % P (e + m) = 0 then 1 else if P (e + m) ≤ b then b - 1 else if b = P (e + m) - P m then b else b + 1
def ndn (e m b : Int) : Int := if b % P (e + m) = 0 then P (e + m) + 1 else if b < P (e + m) then b - 1 else if b = P (e + m) + (P (e + m) - P m) then b else b + 1
/-- bits that are no none -/
def Row (e m b : Int) : Prop := ∃ z, 0 ≤ z ∧ z ≤ P (e + m) - P m ∧ (z = b ∨ P (e + m) + z = b)
theorem Row.range [Se e] [Sm m] {b : Int} (h : Row e m b) : 0 ≤ b ∧ b < 2 * P (e + m) := by
  obtain ⟨z, h0, h1, h⟩ := h
  have := P_pos m
  have := P_pos (e + m)
  omega
theorem Row.of {b : Int} (h0 : 0 ≤ b) (h1 : b < 2 * P (e + m)) (h2 : b % P (e + m) ≤ P (e + m) - P m) : Row e m b := by
  obtain ⟨z, z0, z1, h⟩ := bits_cases (e := e) (m := m) h0 h1
  refine ⟨z, z0, ?_, h⟩
  rcases h with rfl | rfl
  · rw [(dv0 z0 z1).2] at h2; exact h2
  · rw [(dv1 z0 z1).2] at h2; exact h2
end
section
variable {e m : Int} [E : Se e] [M : Sm m]
theorem trn_lo {z : Int} (z1 : z < P (e + m)) : trn (P (e + m)) z = P (e + m) + z := by unfold trn; rw [if_neg (by omega)]; omega
theorem trn_hi {z : Int} (z0 : 0 ≤ z) : trn (P (e + m)) (P (e + m) + z) = z := by unfold trn; rw [if_pos (by omega)]; omega
theorem Row.trn {b : Int} (h : Row e m b) : Row e m (trn (P (e + m)) b) := by
  have pm := P_pos m
  obtain ⟨z, z0, z1, h | h⟩ := h
  · exact ⟨z, z0, z1, .inr (by rw [← h, trn_lo (by omega)])⟩
  · exact ⟨z, z0, z1, .inl (by rw [← h, trn_hi z0])⟩
/-- the rung of a row -/
def rung (e m b : Int) : Int := if b < P (e + m) then b else P (e + m) - b
/-! ### the ladder -/
end
end Nf

namespace Nf
open PySem PySem.Spec PyProof.Rows L2
local macro_rules | `(tactic| walk_at "nfd") => `(tactic| (first | exact cmul_of (by decide +kernel) | exact cshl (by omega) (by decide +kernel) | assumption | omega | exact P_pos _ | exact nopyP (by decide +kernel) | exact nopy_small (by decide +kernel) | decide +kernel | (refine id ?_; with_unfolding_all rfl)))
/-! ### how many bits -/
abbrev nb (n : Int) : Int := ((Builtin.Int.intBits n : Nat) : Int)
section
variable {e m : Int} [E : Se e] [M : Sm m]
/-- what by_units tells -/
def byu (e m s n : Int) : PV := if n < P m then .int (s * P (e + m) + n) else if P e - 2 < nb n - m ∨ ¬ n % P (nb n - m - 1) = 0 then .non else .int (s * P (e + m) + (nb n - m) * P m + (n / P (nb n - m - 1) - P m))
end
end Nf

namespace Nf
open PySem PySem.Spec PyProof.Rows L2
local macro_rules | `(tactic| walk_at "nfd") => `(tactic| (first | exact cmul_of (by decide +kernel) | exact cshl (by omega) (by decide +kernel) | assumption | omega | exact P_pos _ | exact nopyP (by decide +kernel) | exact nopy_small (by decide +kernel) | decide +kernel | (refine id ?_; with_unfolding_all rfl)))
section
variable {e m : Int} [E : Se e] [M : Sm m]
/-- the units of a number -/
def unt (e m b : Int) : Int := if b < P (e + m) then hgt m (b % P (e + m)) else -hgt m (b % P (e + m))
end
end Nf

namespace Nf
open PySem PySem.Spec PyProof.Rows L2
local macro_rules | `(tactic| walk_at "nfd") => `(tactic| (first | exact cmul_of (by decide +kernel) | exact cshl (by omega) (by decide +kernel) | assumption | omega | exact P_pos _ | exact nopyP (by decide +kernel) | exact nopy_small (by decide +kernel) | decide +kernel | (refine id ?_; with_unfolding_all rfl)))
/-- bits that are a number -/
def Num (e m b : Int) : Prop := 0 ≤ b ∧ b < 2 * P (e + m) ∧ b % P (e + m) < P (e + m) - P m
section
variable {e m : Int} [E : Se e] [M : Sm m]
theorem Num.lo {z : Int} (z0 : 0 ≤ z) (z1 : z < P (e + m) - P m) : Num e m z := by
  have pm := P_pos m
  exact ⟨z0, by omega, by rw [(dv0 (e := e) (m := m) z0 (by omega)).2]; exact z1⟩
theorem Num.hi {z : Int} (z0 : 0 ≤ z) (z1 : z < P (e + m) - P m) : Num e m (P (e + m) + z) := by
  have pm := P_pos m
  exact ⟨by omega, by omega, by rw [(dv1 (e := e) (m := m) z0 (by omega)).2]; exact z1⟩
theorem Num.cases {b : Int} (h : Num e m b) : ∃ z, 0 ≤ z ∧ z < P (e + m) - P m ∧ (z = b ∨ P (e + m) + z = b) := by
  obtain ⟨h0, h1, h2⟩ := h
  have pm := P_pos m
  obtain ⟨z, z0, z1, h⟩ := bits_cases (e := e) (m := m) h0 h1
  rcases h with h | h
  · subst h
    rw [(dv0 (e := e) (m := m) z0 z1).2] at h2
    exact ⟨z, z0, h2, .inl rfl⟩
  · subst h
    rw [(dv1 (e := e) (m := m) z0 z1).2] at h2
    exact ⟨z, z0, h2, .inr rfl⟩
/-- -1, 0, 1 -/
def cmpz (x y : Int) : Int := if y < x then 1 else if x < y then -1 else 0
end
end Nf

namespace Nf
open PySem PySem.Spec PyProof.Rows L2
local macro_rules | `(tactic| walk_at "nfd") => `(tactic| (first | exact cmul_of (by decide +kernel) | exact cshl (by omega) (by decide +kernel) | assumption | omega | exact P_pos _ | exact nopyP (by decide +kernel) | exact nopy_small (by decide +kernel) | decide +kernel | (refine id ?_; with_unfolding_all rfl)))
/-! ### while -/
/-! ### the greatest common divisor -/
/-- the lowest terms -/
def gg (a d : Int) : Int := ((Nat.gcd a.natAbs d.natAbs : Nat) : Int)
section
variable {e m : Int} [E : Se e] [M : Sm m]
abbrev grn (e m : Int) : Int := m + P (e - 1) - 2
end
end Nf

namespace Nf
open PySem PySem.Spec PyProof.Rows L2 SX
local macro_rules | `(tactic| walk_at "nfd") => `(tactic| (first | exact cmul_of (by decide +kernel) | exact cshl (by omega) (by decide +kernel) | assumption | omega | exact P_pos _ | exact nopyP (by decide +kernel) | exact nopy_small (by decide +kernel) | decide +kernel | (refine id ?_; with_unfolding_all rfl)))
/-! ### texts as lists of signs -/
def tx (l : List Nat) : PV := .str (S l)
section
variable {a b : List Nat} {i j : Int} {c : Nat}
theorem S_toList : (S a).cps.toList = a := rfl
theorem tx_add (h : a.length + b.length ≤ 100000) : gAdd (tx a) (tx b) = .ok (tx (a ++ b)) := by
  show (if (S a).length + (S b).length ≤ 100000 then R.ok (.str (S a ++ S b)) else .fail) = _
  rw [S_len, S_len, if_pos h, S_cat]; rfl
theorem tx_len (h : a.length ≤ 100000) : gLen [tx a] = .ok (.int a.length) := by
  show (if (S a).length ≤ 100000 then R.ok (.int (S a).length) else .fail) = _
  rw [S_len, if_pos h]
theorem tx_ix {k : Nat} (h : a.length ≤ 100000) (hk : a[k]? = some c) : gIx (tx a) (.int (k : Nat)) = .ok (tx [c]) := by
  show (if (S a).length ≤ 100000 then (match atI a (k : Nat) with | some c => R.ok (.str ⟨#[c]⟩) | none => .fail) else .fail) = _
  rw [S_len, if_pos h, atI_nat hk]; rfl
theorem tx_ixI (h : a.length ≤ 100000) (h0 : 0 ≤ i) (hk : a[i.toNat]? = some c) : gIx (tx a) (.int i) = .ok (tx [c]) := by
  have := tx_ix h hk
  rwa [Int.toNat_of_nonneg h0] at this
theorem tx_in : gInStr (tx [c]) (tx b) = .ok (.bl (decide (c ∈ b))) := rfl
theorem tx_notin : gNotInStr (tx [c]) (tx b) = .ok (.bl (!decide (c ∈ b))) := rfl
theorem tx_eq : gEq (tx a) (tx b) = .ok (.bl (decide (a = b))) := by
  unfold tx
  rw [gEq_str]
  congr 2
  exact decide_eq_decide.mpr ⟨S_inj, fun h => by rw [h]⟩
theorem tx_ne : gNe (tx a) (tx b) = .ok (.bl (!decide (a = b))) := by
  unfold tx
  rw [gNe_str]
  congr 3
  exact decide_eq_decide.mpr ⟨S_inj, fun h => by rw [h]⟩
theorem tx_slN (h : a.length ≤ 100000) (h0 : 0 ≤ j) : gSlS (tx a) none (some j) = .ok (tx (a.take j.toNat)) := by
  show (if (S a).length ≤ 100000 then R.ok (.str (cutS (S a) none (some j))) else .fail) = _
  rw [S_len, if_pos h, C8.cutS_slice, slice_to h0]; rfl
theorem tx_slS (h : a.length ≤ 100000) (h0 : 0 ≤ i) : gSlS (tx a) (some i) none = .ok (tx (a.drop i.toNat)) := by
  show (if (S a).length ≤ 100000 then R.ok (.str (cutS (S a) (some i) none)) else .fail) = _
  rw [S_len, if_pos h, C8.cutS_slice, slice_from h0]; rfl
theorem tx_slL (h : a.length ≤ 100000) : gSlS (tx a) (some (-1)) none = .ok (tx (a.drop (a.length - 1))) := by
  show (if (S a).length ≤ 100000 then R.ok (.str (cutS (S a) (some (-1)) none)) else .fail) = _
  rw [S_len, if_pos h, C8.cutS_slice]
  by_cases ha : a = []
  · subst ha; rfl
  · rw [slice_last ha]; rfl
theorem sIx_nn {n d : Nat} (h0 : 0 ≤ i) : HT.sIx n d (some i) = min i.toNat n := by
  have := HT.sIx_nat n d i.toNat
  rwa [Int.toNat_of_nonneg h0] at this
theorem tx_sl1 (h : a.length ≤ 100000) (h0 : 0 ≤ i) : gSlS (tx a) (some i) (some (i + 1)) = .ok (tx ((a.drop i.toNat).take 1)) := by
  show (if (S a).length ≤ 100000 then R.ok (.str (cutS (S a) (some i) (some (i + 1)))) else .fail) = _
  rw [S_len, if_pos h]
  unfold cutS tx
  rw [S_toList, S_len, sIx_nn h0, sIx_nn (show 0 ≤ i + 1 by omega)]
  congr 3
  have e1 : (i + 1).toNat = i.toNat + 1 := by omega
  rw [e1]
  by_cases hi : i.toNat + 1 ≤ a.length
  · rw [show min i.toNat a.length = i.toNat by omega, show min (i.toNat + 1) a.length = i.toNat + 1 by omega, Nat.add_sub_cancel_left]
  · rw [List.drop_of_length_le (i := i.toNat) (by omega), show min i.toNat a.length = a.length by omega, List.drop_of_length_le (Nat.le_refl _)]
    rw [List.take_nil, List.take_nil]
theorem t1_tx {k : Str → PV → R} {q : PV} : R.t1 k (.ok (tx a)) (.ok q) = k (S a) q := rfl
theorem t0_tx {k : Str → R} : R.t0 k (.ok (tx a)) = k (S a) := rfl
theorem pre_iff : TL.pre b a = decide (b <+: a) := by
  unfold TL.pre
  have : (a.take b.length = b) ↔ b <+: a := by
    rw [List.prefix_iff_eq_take]
    exact ⟨fun h => h.symm, fun h => h.symm⟩
  by_cases h : b <+: a
  · rw [decide_eq_true h]
    exact beq_iff_eq.mpr (this.mpr h)
  · rw [decide_eq_false h]
    exact beq_eq_false_iff_ne.mpr fun e => h (this.mp e)
theorem tx_starts : gStarts (S a) (tx b) = .ok (.bl (decide (b <+: a))) := by
  show R.ok (.bl (TL.pre b a)) = _
  rw [pre_iff]
theorem tx_ends : gEnds (S a) (tx b) = .ok (.bl (decide (b <:+ a))) := by
  show R.ok (.bl (decide ((S b).length ≤ (S a).length) && ((S a).cps.toList.drop ((S a).length - (S b).length) == (S b).cps.toList))) = _
  rw [S_len, S_len, S_toList, S_toList]
  congr 2
  rw [← Bool.decide_coe (_ && _)]
  refine decide_eq_decide.mpr ?_
  rw [Bool.and_eq_true, decide_eq_true_eq, beq_iff_eq]
  constructor
  · rintro ⟨_, h⟩
    have e := List.take_append_drop (a.length - b.length) a
    rw [h] at e
    exact ⟨_, e⟩
  · rintro ⟨t, rfl⟩
    rw [List.length_append, Nat.add_sub_cancel]
    exact ⟨Nat.le_add_left .., List.drop_left ..⟩
theorem tx_mul (h0 : 0 ≤ i) (h1 : i ≤ 1000) (h : a.length ≤ 90) : gMulS (tx a) (.int i) = .ok (tx (repL i.toNat a)) := by
  show (if -(2 ^ 63) ≤ i ∧ i < 2 ^ 63 ∧ (S a).length * i.toNat ≤ 100000 then R.ok (.str (S (repL i.toNat (S a).cps.toList))) else .fail) = _
  rw [S_len, S_toList]
  refine if_pos ⟨by omega, by omega, ?_⟩
  · have : a.length * i.toNat ≤ 90 * 1000 := Nat.mul_le_mul h (by omega)
    omega
/-! partition at one sign -/
def cutA (c : Nat) (a : List Nat) : List Nat := a.takeWhile (· ≠ c)
def cutM (c : Nat) (a : List Nat) : List Nat := if c ∈ a then [c] else []
def cutB (c : Nat) (a : List Nat) : List Nat := (a.dropWhile (· ≠ c)).drop 1
theorem tw_free {p q : List Nat} (h : c ∉ p) : (p ++ c :: q).takeWhile (· ≠ c) = p ∧ (p ++ c :: q).dropWhile (· ≠ c) = c :: q := by
  induction p with
  | nil => simp
  | cons x p ih =>
    have hx : x ≠ c := fun z => h (by rw [z]; exact List.mem_cons_self)
    obtain ⟨h1, h2⟩ := ih fun z => h (List.mem_cons_of_mem _ z)
    constructor
    · rw [List.cons_append, List.takeWhile_cons, if_pos (by simp [hx]), h1]
    · rw [List.cons_append, List.dropWhile_cons, if_pos (by simp [hx]), h2]
theorem tw_none (h : c ∉ a) : a.takeWhile (· ≠ c) = a ∧ a.dropWhile (· ≠ c) = [] := by
  induction a with
  | nil => exact ⟨rfl, rfl⟩
  | cons x p ih =>
    have hx : x ≠ c := fun z => h (by rw [z]; exact List.mem_cons_self)
    obtain ⟨h1, h2⟩ := ih fun z => h (List.mem_cons_of_mem _ z)
    constructor
    · rw [List.takeWhile_cons, if_pos (by simp [hx]), h1]
    · rw [List.dropWhile_cons, if_pos (by simp [hx]), h2]
theorem mem_split_first : ∀ {a : List Nat}, c ∈ a → ∃ p q, a = p ++ c :: q ∧ c ∉ p
  | x :: a, h => by
    by_cases hx : x = c
    · subst hx; exact ⟨[], a, rfl, List.not_mem_nil⟩
    · obtain ⟨p, q, e, hp⟩ := mem_split_first (a := a) (by
        rcases List.mem_cons.mp h with h | h
        · exact absurd h.symm hx
        · exact h)
      exact ⟨x :: p, q, by rw [e]; rfl, fun z => by
        rcases List.mem_cons.mp z with z | z
        · exact hx z.symm
        · exact hp z⟩
theorem tx_part (h : a.length ≤ 100000) : gPart (S a) (tx [c]) = .ok (.tup [tx (cutA c a), tx (cutM c a), tx (cutB c a)]) := by
  show (if (S [c]).length ≠ 0 ∧ (S a).length ≤ 100000 then R.ok (.tup [.str (Txt.partition (S a) (S [c])).1, .str (Txt.partition (S a) (S [c])).2.1, .str (Txt.partition (S a) (S [c])).2.2]) else .fail) = _
  rw [S_len, S_len, if_pos ⟨(show (1 : Nat) ≠ 0 by decide), h⟩]
  unfold cutA cutM cutB
  by_cases hc : c ∈ a
  · obtain ⟨p, q, rfl, hp⟩ := mem_split_first hc
    have e := partition_some (a := p ++ c :: q) (b := [c]) (p := p) (q := q) (by simp) (by
      have := TL.par_part1 (s := c) (S := []) (p := p) (rest := q) (acc := []) hp
      simpa using this)
    obtain ⟨h1, h2⟩ := tw_free (q := q) hp
    rw [e, h1, h2, if_pos hc]; rfl
  · have e := partition_none (a := a) (b := [c]) (by simp) (TL.par_none1 (S := []) hc)
    obtain ⟨h1, h2⟩ := tw_none hc
    rw [e, h1, h2, if_neg hc]; rfl
theorem sg_tx : RL.sg (.ok (tx a)) = .ok (a.map fun c => tx [c]) := rfl
/-! whole numbers and texts -/
def numI (i : Int) : List Nat := if i < 0 then 45 :: TL.numL i.natAbs else TL.numL i.toNat
end
end Nf

namespace Nf
open PySem PySem.Spec PyProof.Rows L2 SX
local macro_rules | `(tactic| walk_at "nfd") => `(tactic| (first | exact cmul_of (by decide +kernel) | exact cshl (by omega) (by decide +kernel) | assumption | omega | exact P_pos _ | exact nopyP (by decide +kernel) | exact nopy_small (by decide +kernel) | decide +kernel | (refine id ?_; with_unfolding_all rfl)))
/-! ### how far a text is the begin of a good one -/
def dgs : List Nat := [48, 49, 50, 51, 52, 53, 54, 55, 56, 57]
def hxs : List Nat := [48, 49, 50, 51, 52, 53, 54, 55, 56, 57, 97, 98, 99, 100, 101, 102]
def wEnd : List Nat := [101, 110, 100]
def wStill : List Nat := [115, 116, 105, 108, 108, 32]
def wLoud : List Nat := [108, 111, 117, 100, 32]
def runL (sg : List Nat) (k : Nat) (r : List Nat) : Nat := ((r.take k).takeWhile fun c => decide (c ∈ sg)).length
theorem drop_c {l : List Nat} {h : Nat} (hh : h < l.length) : ∃ c, l[h]? = some c ∧ l.drop h = c :: l.drop (h + 1) := ⟨l[h], List.getElem?_eq_getElem hh, List.drop_eq_getElem_cons hh⟩
def cpl : List Nat → List Nat → Nat
  | a :: as, b :: bs => if a = b then cpl as bs + 1 else 0
  | _, _ => 0
def markL (w r : List Nat) : Nat := if cpl w r < w.length then cpl w r else if (r.drop w.length).take 1 = [48] then w.length + 1 else w.length + runL dgs 18 (r.drop w.length)
def powL (c : Nat) (r : List Nat) : Nat := if r.take 1 = [c] then (if (r.drop 1).take 1 = [45] then 2 + runL dgs 4 (r.drop 2) else 1 + runL dgs 4 (r.drop 1)) else 0
def tw (r : List Nat) : Nat := (r.takeWhile fun c => decide (c ∈ dgs)).length
def figL (r : List Nat) : Nat :=
  if 0 < tw r ∧ (r.drop (tw r)).take 1 = [46] then
    (if tw (r.drop (tw r + 1)) = 0 then tw r + 1 else tw r + 1 + tw (r.drop (tw r + 1)) + powL 101 (r.drop (tw r + 1 + tw (r.drop (tw r + 1)))))
  else if tw r = 0 then 0 else tw r + powL 101 (r.drop (tw r))
def sixL (r : List Nat) : Nat :=
  if r.take 1 = [120] then
    (if runL hxs 1 (r.drop 1) = 0 ∨ ¬ (r.drop (1 + runL hxs 1 (r.drop 1))).take 1 = [46] then 1 + runL hxs 1 (r.drop 1)
    else if runL hxs 20 (r.drop 3) = 0 then 3 else 3 + runL hxs 20 (r.drop 3) + powL 114 (r.drop (3 + runL hxs 20 (r.drop 3))))
  else 0
/-- the sign -/
def sgL (l : List Nat) : Nat := if [45] <+: l then 1 else 0
def gdL (r : List Nat) : Nat := max (max (cpl wEnd r) (max (markL wStill r) (markL wLoud r))) (figL r)
def goodL (l : List Nat) : Nat := sgL l + gdL (l.drop (sgL l))
def good16 (l : List Nat) : Nat := sgL l + sixL (l.drop (sgL l))
end Nf

namespace Nf
open PySem PySem.Spec PyProof.Rows L2 SX
/-! ### the looks on a text cut short -/
/-! ### whole begins -/
/-- a mark -/
def mkOk (q : List Nat) : Bool := q.all (fun c => decide (c ∈ dgs)) && decide (q.length ≤ 18) && (decide (q = [48]) || !decide (q.take 1 = [48]))
/-- a power behind its letter -/
def pwOk (p : List Nat) : Bool := (if p.take 1 = [45] then p.drop 1 else p).all (fun c => decide (c ∈ dgs)) && decide ((if p.take 1 = [45] then p.drop 1 else p).length < 5)
/-- a row of figures, or the begin of one -/
def rowOk (r : List Nat) : Bool :=
  !decide (cutA 46 (cutA 101 r) = []) && (cutA 46 (cutA 101 r) ++ cutB 46 (cutA 101 r)).all (fun c => decide (c ∈ dgs)) &&
  (decide (101 ∉ r) || (!(decide (46 ∈ cutA 101 r) && decide (cutB 46 (cutA 101 r) = [])) && pwOk (cutB 101 r)))
/-- the law's look: the begin of a good text, its sign cut off -/
def begR (r : List Nat) : Bool :=
  if r <+: wEnd ∨ r <+: wStill ∨ r <+: wLoud then true
  else if wStill <+: r then mkOk (r.drop 6)
  else if wLoud <+: r then mkOk (r.drop 5)
  else rowOk r
def begL (l : List Nat) : Bool := begR (l.drop (sgL l))
end Nf

namespace Nf
open PySem PySem.Spec PyProof.Rows L2
local macro_rules | `(tactic| walk_at "nfd") => `(tactic| (first | exact cmul_of (by decide +kernel) | exact cshl (by omega) (by decide +kernel) | assumption | omega | exact P_pos _ | exact nopyP (by decide +kernel) | exact nopy_small (by decide +kernel) | decide +kernel | (refine id ?_; with_unfolding_all rfl)))
instance sb_ite {n k : Nat} {c : Prop} [Decidable c] {a b : Int} [A : Sb n a] [B : Sb k b] : Sb (max n k) (if c then a else b) := by
  split
  · exact A.mono (Nat.le_max_left ..)
  · exact B.mono (Nat.le_max_right ..)
instance ub_ite {n k : Nat} {c : Prop} [Decidable c] {a b : Int} [A : Ub n a] [B : Ub k b] : Ub (max n k) (if c then a else b) := by
  have := A.le
  have := B.le
  constructor
  split <;> omega
/-! ### heights rise, and the size of a height -/
section
variable {m : Int} [M : Sm m]
/-- a size's step -/
def stp (m s : Int) : Int := if s / P m = 0 then 1 else P (s / P m - 1)
/-- the greatest size whose height is so many whole units at most -/
def sz (m u : Int) : Int := if nb u ≤ m then u else (nb u - m) * P m + u / P (nb u - m - 1) - P m
end
/-! ### the five ways -/
inductive Wy where
  | even | off | inn | up | down
def Wy.str : Wy → Str
  | .even => "even" | .off => "off" | .inn => "in" | .up => "up" | .down => "down"
def Wy.cls : Wy → Str
  | .even => "Even" | .off => "Off" | .inn => "In" | .up => "Up" | .down => "Down"
def goes : Wy → Int → Bool → Int → Bool
  | .even, _, odd, d => decide (0 < d) || (decide (d = 0) && odd)
  | .off, _, _, d => decide (0 ≤ d)
  | .inn, _, _, _ => false
  | .up, s, _, _ => decide (s = 0)
  | .down, s, _, _ => decide (s = 1)
def ends : Wy → Int → Bool
  | .even, _ => true
  | .off, _ => true
  | .inn, _ => false
  | .up, s => decide (s = 0)
  | .down, s => decide (s = 1)
theorem ways_ne : (("off" : Str) = "even") = False ∧ (("in" : Str) = "even") = False ∧ (("in" : Str) = "off") = False ∧ (("up" : Str) = "even") = False ∧ (("up" : Str) = "off") = False ∧ (("up" : Str) = "in") = False ∧ (("down" : Str) = "even") = False ∧ (("down" : Str) = "off") = False ∧ (("down" : Str) = "in") = False ∧ (("down" : Str) = "up") = False := by
  refine ⟨eq_false (by decide +kernel), eq_false (by decide +kernel), eq_false (by decide +kernel), eq_false (by decide +kernel), eq_false (by decide +kernel), eq_false (by decide +kernel), eq_false (by decide +kernel), eq_false (by decide +kernel), eq_false (by decide +kernel), eq_false (by decide +kernel)⟩
theorem ways_ne2 : (("even" : Str) = "off") = False ∧ (("even" : Str) = "in") = False ∧ (("off" : Str) = "in") = False ∧ (("even" : Str) = "up") = False ∧ (("off" : Str) = "up") = False ∧ (("in" : Str) = "up") = False ∧ (("even" : Str) = "down") = False ∧ (("off" : Str) = "down") = False ∧ (("in" : Str) = "down") = False ∧ (("up" : Str) = "down") = False := by
  refine ⟨eq_false (by decide +kernel), eq_false (by decide +kernel), eq_false (by decide +kernel), eq_false (by decide +kernel), eq_false (by decide +kernel), eq_false (by decide +kernel), eq_false (by decide +kernel), eq_false (by decide +kernel), eq_false (by decide +kernel), eq_false (by decide +kernel)⟩
theorem sp_way_of (w : Wy) : m_way_of [.str w.str] = .ok (.ins w.cls) := by
  obtain ⟨n1, n2, n3, n4, n5, n6, n7, n8, n9, n10⟩ := ways_ne
  unfold m_way_of b_way_of
  cases w
  · simp (disch := walk_at "nfd") only [gIsB_bl, gIsNotB_bl, gList_lst, gList_tup, fn_app, List.map_cons, List.map_nil, List.cons_append, List.nil_append, List.append_nil, List.replicate, List.length_cons, List.length_nil, Nat.reduceSub, Nat.reduceAdd, sSeq_app, sSet_app, sRet_app, sIf_app, sNop_app, sRaise_app, e2_app, e1_app, eV_app, eC_app, eB_app, aC_app, aN_app, eTup_app, eLst_app, eCall0_app, eCall_app, eAnd_app, eOr_app, eNot_app, eIf_app, eChain_app, List.getElem?_cons_zero, List.getElem?_cons_succ, slotR, b2_ok, b1_ok, cons_ok, b_ok, set_ok, ret_ok, seq_nx, seq_rt, seq_exc, out_rt, out_nx, out_exc, List.set_cons_zero, List.set_cons_succ, R.go_ok, R.bind_ok, R.bindL_ok, RL.go_ok, sFor_app, iSeq_app, itOf_lst, itOf_tup, br_true, br_false, br_dec, brS_true, brS_false, brS_dec, truB, eTru_app, gAdd_int, gSub_int, gMul_int, gMod_pos, gFdiv_pos, gDivmod_pos, gShl_P, gShr_P, gAnd_int, gOr_int, gXor_int, gLt_int, gLe_int, gGt_int, gGe_int, gEq_int, gNe_int, gNeg_int, gLen_tup, gLen_lst, gMax_int, gMin_int, gAbs_int, gInt_int, gIs_non, gIsNot_non, eIsi2, isR_non_int, isR_non_bool, isR_non_str, isR_non_tuple, isR_non_list, isR_bl_int, isR_bl_bool, isR_bl_str, isR_bl_tuple, isR_bl_list, isR_int_int, isR_int_bool, isR_int_str, isR_int_tuple, isR_int_list, isR_str_int, isR_str_bool, isR_str_str, isR_str_tuple, isR_str_list, isR_tup_int, isR_tup_bool, isR_tup_str, isR_tup_tuple, isR_tup_list, isR_lst_int, isR_lst_bool, isR_lst_str, isR_lst_tuple, isR_lst_list, natlit, sTgt_app, gMany_eq, gMany_eqL, setMany_cons, setMany_nil, setMany_nil', ixt0, ixt1, ixt2, ixl0, ixl1, ixl2, ixl3, ixl4, ixl5, ixl6, ixl7, ixl8, ixl9, ixl10, ixl11, ixt3, ixt4, tupok, lstok, isNon_int, isNon_non, isNon_tup, isNon_lst, Bool.not_true, Bool.not_false, decide_true, decide_false, Bool.not_eq_true, decide_eq_true_eq, Bool.not_eq_eq_eq_not, Nat.reduceLeDiff, reduceIte, Int.reduceEq, Int.reduceLT, Int.reduceLE, Int.reduceAdd, Int.reduceSub, Int.reduceMul, Int.reduceNeg, Int.reduceMod, Int.reduceDiv, eLc_app, lcsize, lc_bind, lcL_nil, lcL_one, lcGo_f, lcGo_t, lcFin_ok, wipe_nil, wipe_cons, gNe_l0, gEq_l0, gNe_t2, gEq_t2, gNe_t3, gEq_t3, gEq_str, gNe_str, gEq_bl, gNe_bl, aApp_app, app2_ok, app2_exc, cons_exc1, cons_exc2, b_exc, b1_exc, b2_exc1, b2_exc2, br_exc, brS_exc, R.bind_exc, R.bindL_exc, RL.bind_exc, R.go_exc, RL.go_exc, ret_exc, set_exc, sTry_app, tryGo_nx, tryGo_rt, tryGo_exc, tryEnd_nx, tryEnd_rt, eIsx_app, isx_t, isx_f, isNon_exn, isNon_bl, isNon_str, sDrop_app, gInt_bl, sNew_app, new_ok, sApp_app, app_ok, sFrz_app, frz_own, frz_val, frz_none, eMeth_app, eSlB_app, eSlS_app, eSlN_app, sNewD_app, sPutD_app, eGetD_app, iRev_app, itRv_lst, itRv_tup, gRevL_lst, gVals_dct, gSorted_ints, gSum_ints, gMin3_int, keyP_str, keyP_int, optR_some, getR_some, lookK_hit, lookK_miss, get_own, get_val, gIxD_dct, put_own, putR_some, putD_new, frz_owd, bindI_ok, gSlL_lst, Bool.false_eq_true, and_self, and_true, true_and, Wy.str, Wy.cls, brS_b]
  · simp (disch := walk_at "nfd") only [gIsB_bl, gIsNotB_bl, gList_lst, gList_tup, fn_app, List.map_cons, List.map_nil, List.cons_append, List.nil_append, List.append_nil, List.replicate, List.length_cons, List.length_nil, Nat.reduceSub, Nat.reduceAdd, sSeq_app, sSet_app, sRet_app, sIf_app, sNop_app, sRaise_app, e2_app, e1_app, eV_app, eC_app, eB_app, aC_app, aN_app, eTup_app, eLst_app, eCall0_app, eCall_app, eAnd_app, eOr_app, eNot_app, eIf_app, eChain_app, List.getElem?_cons_zero, List.getElem?_cons_succ, slotR, b2_ok, b1_ok, cons_ok, b_ok, set_ok, ret_ok, seq_nx, seq_rt, seq_exc, out_rt, out_nx, out_exc, List.set_cons_zero, List.set_cons_succ, R.go_ok, R.bind_ok, R.bindL_ok, RL.go_ok, sFor_app, iSeq_app, itOf_lst, itOf_tup, br_true, br_false, br_dec, brS_true, brS_false, brS_dec, truB, eTru_app, gAdd_int, gSub_int, gMul_int, gMod_pos, gFdiv_pos, gDivmod_pos, gShl_P, gShr_P, gAnd_int, gOr_int, gXor_int, gLt_int, gLe_int, gGt_int, gGe_int, gEq_int, gNe_int, gNeg_int, gLen_tup, gLen_lst, gMax_int, gMin_int, gAbs_int, gInt_int, gIs_non, gIsNot_non, eIsi2, isR_non_int, isR_non_bool, isR_non_str, isR_non_tuple, isR_non_list, isR_bl_int, isR_bl_bool, isR_bl_str, isR_bl_tuple, isR_bl_list, isR_int_int, isR_int_bool, isR_int_str, isR_int_tuple, isR_int_list, isR_str_int, isR_str_bool, isR_str_str, isR_str_tuple, isR_str_list, isR_tup_int, isR_tup_bool, isR_tup_str, isR_tup_tuple, isR_tup_list, isR_lst_int, isR_lst_bool, isR_lst_str, isR_lst_tuple, isR_lst_list, natlit, sTgt_app, gMany_eq, gMany_eqL, setMany_cons, setMany_nil, setMany_nil', ixt0, ixt1, ixt2, ixl0, ixl1, ixl2, ixl3, ixl4, ixl5, ixl6, ixl7, ixl8, ixl9, ixl10, ixl11, ixt3, ixt4, tupok, lstok, isNon_int, isNon_non, isNon_tup, isNon_lst, Bool.not_true, Bool.not_false, decide_true, decide_false, Bool.not_eq_true, decide_eq_true_eq, Bool.not_eq_eq_eq_not, Nat.reduceLeDiff, reduceIte, Int.reduceEq, Int.reduceLT, Int.reduceLE, Int.reduceAdd, Int.reduceSub, Int.reduceMul, Int.reduceNeg, Int.reduceMod, Int.reduceDiv, eLc_app, lcsize, lc_bind, lcL_nil, lcL_one, lcGo_f, lcGo_t, lcFin_ok, wipe_nil, wipe_cons, gNe_l0, gEq_l0, gNe_t2, gEq_t2, gNe_t3, gEq_t3, gEq_str, gNe_str, gEq_bl, gNe_bl, aApp_app, app2_ok, app2_exc, cons_exc1, cons_exc2, b_exc, b1_exc, b2_exc1, b2_exc2, br_exc, brS_exc, R.bind_exc, R.bindL_exc, RL.bind_exc, R.go_exc, RL.go_exc, ret_exc, set_exc, sTry_app, tryGo_nx, tryGo_rt, tryGo_exc, tryEnd_nx, tryEnd_rt, eIsx_app, isx_t, isx_f, isNon_exn, isNon_bl, isNon_str, sDrop_app, gInt_bl, sNew_app, new_ok, sApp_app, app_ok, sFrz_app, frz_own, frz_val, frz_none, eMeth_app, eSlB_app, eSlS_app, eSlN_app, sNewD_app, sPutD_app, eGetD_app, iRev_app, itRv_lst, itRv_tup, gRevL_lst, gVals_dct, gSorted_ints, gSum_ints, gMin3_int, keyP_str, keyP_int, optR_some, getR_some, lookK_hit, lookK_miss, get_own, get_val, gIxD_dct, put_own, putR_some, putD_new, frz_owd, bindI_ok, gSlL_lst, Bool.false_eq_true, and_self, and_true, true_and, Wy.str, Wy.cls, n1]
  · simp (disch := walk_at "nfd") only [gIsB_bl, gIsNotB_bl, gList_lst, gList_tup, fn_app, List.map_cons, List.map_nil, List.cons_append, List.nil_append, List.append_nil, List.replicate, List.length_cons, List.length_nil, Nat.reduceSub, Nat.reduceAdd, sSeq_app, sSet_app, sRet_app, sIf_app, sNop_app, sRaise_app, e2_app, e1_app, eV_app, eC_app, eB_app, aC_app, aN_app, eTup_app, eLst_app, eCall0_app, eCall_app, eAnd_app, eOr_app, eNot_app, eIf_app, eChain_app, List.getElem?_cons_zero, List.getElem?_cons_succ, slotR, b2_ok, b1_ok, cons_ok, b_ok, set_ok, ret_ok, seq_nx, seq_rt, seq_exc, out_rt, out_nx, out_exc, List.set_cons_zero, List.set_cons_succ, R.go_ok, R.bind_ok, R.bindL_ok, RL.go_ok, sFor_app, iSeq_app, itOf_lst, itOf_tup, br_true, br_false, br_dec, brS_true, brS_false, brS_dec, truB, eTru_app, gAdd_int, gSub_int, gMul_int, gMod_pos, gFdiv_pos, gDivmod_pos, gShl_P, gShr_P, gAnd_int, gOr_int, gXor_int, gLt_int, gLe_int, gGt_int, gGe_int, gEq_int, gNe_int, gNeg_int, gLen_tup, gLen_lst, gMax_int, gMin_int, gAbs_int, gInt_int, gIs_non, gIsNot_non, eIsi2, isR_non_int, isR_non_bool, isR_non_str, isR_non_tuple, isR_non_list, isR_bl_int, isR_bl_bool, isR_bl_str, isR_bl_tuple, isR_bl_list, isR_int_int, isR_int_bool, isR_int_str, isR_int_tuple, isR_int_list, isR_str_int, isR_str_bool, isR_str_str, isR_str_tuple, isR_str_list, isR_tup_int, isR_tup_bool, isR_tup_str, isR_tup_tuple, isR_tup_list, isR_lst_int, isR_lst_bool, isR_lst_str, isR_lst_tuple, isR_lst_list, natlit, sTgt_app, gMany_eq, gMany_eqL, setMany_cons, setMany_nil, setMany_nil', ixt0, ixt1, ixt2, ixl0, ixl1, ixl2, ixl3, ixl4, ixl5, ixl6, ixl7, ixl8, ixl9, ixl10, ixl11, ixt3, ixt4, tupok, lstok, isNon_int, isNon_non, isNon_tup, isNon_lst, Bool.not_true, Bool.not_false, decide_true, decide_false, Bool.not_eq_true, decide_eq_true_eq, Bool.not_eq_eq_eq_not, Nat.reduceLeDiff, reduceIte, Int.reduceEq, Int.reduceLT, Int.reduceLE, Int.reduceAdd, Int.reduceSub, Int.reduceMul, Int.reduceNeg, Int.reduceMod, Int.reduceDiv, eLc_app, lcsize, lc_bind, lcL_nil, lcL_one, lcGo_f, lcGo_t, lcFin_ok, wipe_nil, wipe_cons, gNe_l0, gEq_l0, gNe_t2, gEq_t2, gNe_t3, gEq_t3, gEq_str, gNe_str, gEq_bl, gNe_bl, aApp_app, app2_ok, app2_exc, cons_exc1, cons_exc2, b_exc, b1_exc, b2_exc1, b2_exc2, br_exc, brS_exc, R.bind_exc, R.bindL_exc, RL.bind_exc, R.go_exc, RL.go_exc, ret_exc, set_exc, sTry_app, tryGo_nx, tryGo_rt, tryGo_exc, tryEnd_nx, tryEnd_rt, eIsx_app, isx_t, isx_f, isNon_exn, isNon_bl, isNon_str, sDrop_app, gInt_bl, sNew_app, new_ok, sApp_app, app_ok, sFrz_app, frz_own, frz_val, frz_none, eMeth_app, eSlB_app, eSlS_app, eSlN_app, sNewD_app, sPutD_app, eGetD_app, iRev_app, itRv_lst, itRv_tup, gRevL_lst, gVals_dct, gSorted_ints, gSum_ints, gMin3_int, keyP_str, keyP_int, optR_some, getR_some, lookK_hit, lookK_miss, get_own, get_val, gIxD_dct, put_own, putR_some, putD_new, frz_owd, bindI_ok, gSlL_lst, Bool.false_eq_true, and_self, and_true, true_and, Wy.str, Wy.cls, n2, n3]
  · simp (disch := walk_at "nfd") only [gIsB_bl, gIsNotB_bl, gList_lst, gList_tup, fn_app, List.map_cons, List.map_nil, List.cons_append, List.nil_append, List.append_nil, List.replicate, List.length_cons, List.length_nil, Nat.reduceSub, Nat.reduceAdd, sSeq_app, sSet_app, sRet_app, sIf_app, sNop_app, sRaise_app, e2_app, e1_app, eV_app, eC_app, eB_app, aC_app, aN_app, eTup_app, eLst_app, eCall0_app, eCall_app, eAnd_app, eOr_app, eNot_app, eIf_app, eChain_app, List.getElem?_cons_zero, List.getElem?_cons_succ, slotR, b2_ok, b1_ok, cons_ok, b_ok, set_ok, ret_ok, seq_nx, seq_rt, seq_exc, out_rt, out_nx, out_exc, List.set_cons_zero, List.set_cons_succ, R.go_ok, R.bind_ok, R.bindL_ok, RL.go_ok, sFor_app, iSeq_app, itOf_lst, itOf_tup, br_true, br_false, br_dec, brS_true, brS_false, brS_dec, truB, eTru_app, gAdd_int, gSub_int, gMul_int, gMod_pos, gFdiv_pos, gDivmod_pos, gShl_P, gShr_P, gAnd_int, gOr_int, gXor_int, gLt_int, gLe_int, gGt_int, gGe_int, gEq_int, gNe_int, gNeg_int, gLen_tup, gLen_lst, gMax_int, gMin_int, gAbs_int, gInt_int, gIs_non, gIsNot_non, eIsi2, isR_non_int, isR_non_bool, isR_non_str, isR_non_tuple, isR_non_list, isR_bl_int, isR_bl_bool, isR_bl_str, isR_bl_tuple, isR_bl_list, isR_int_int, isR_int_bool, isR_int_str, isR_int_tuple, isR_int_list, isR_str_int, isR_str_bool, isR_str_str, isR_str_tuple, isR_str_list, isR_tup_int, isR_tup_bool, isR_tup_str, isR_tup_tuple, isR_tup_list, isR_lst_int, isR_lst_bool, isR_lst_str, isR_lst_tuple, isR_lst_list, natlit, sTgt_app, gMany_eq, gMany_eqL, setMany_cons, setMany_nil, setMany_nil', ixt0, ixt1, ixt2, ixl0, ixl1, ixl2, ixl3, ixl4, ixl5, ixl6, ixl7, ixl8, ixl9, ixl10, ixl11, ixt3, ixt4, tupok, lstok, isNon_int, isNon_non, isNon_tup, isNon_lst, Bool.not_true, Bool.not_false, decide_true, decide_false, Bool.not_eq_true, decide_eq_true_eq, Bool.not_eq_eq_eq_not, Nat.reduceLeDiff, reduceIte, Int.reduceEq, Int.reduceLT, Int.reduceLE, Int.reduceAdd, Int.reduceSub, Int.reduceMul, Int.reduceNeg, Int.reduceMod, Int.reduceDiv, eLc_app, lcsize, lc_bind, lcL_nil, lcL_one, lcGo_f, lcGo_t, lcFin_ok, wipe_nil, wipe_cons, gNe_l0, gEq_l0, gNe_t2, gEq_t2, gNe_t3, gEq_t3, gEq_str, gNe_str, gEq_bl, gNe_bl, aApp_app, app2_ok, app2_exc, cons_exc1, cons_exc2, b_exc, b1_exc, b2_exc1, b2_exc2, br_exc, brS_exc, R.bind_exc, R.bindL_exc, RL.bind_exc, R.go_exc, RL.go_exc, ret_exc, set_exc, sTry_app, tryGo_nx, tryGo_rt, tryGo_exc, tryEnd_nx, tryEnd_rt, eIsx_app, isx_t, isx_f, isNon_exn, isNon_bl, isNon_str, sDrop_app, gInt_bl, sNew_app, new_ok, sApp_app, app_ok, sFrz_app, frz_own, frz_val, frz_none, eMeth_app, eSlB_app, eSlS_app, eSlN_app, sNewD_app, sPutD_app, eGetD_app, iRev_app, itRv_lst, itRv_tup, gRevL_lst, gVals_dct, gSorted_ints, gSum_ints, gMin3_int, keyP_str, keyP_int, optR_some, getR_some, lookK_hit, lookK_miss, get_own, get_val, gIxD_dct, put_own, putR_some, putD_new, frz_owd, bindI_ok, gSlL_lst, Bool.false_eq_true, and_self, and_true, true_and, Wy.str, Wy.cls, n4, n5, n6]
  · simp (disch := walk_at "nfd") only [gIsB_bl, gIsNotB_bl, gList_lst, gList_tup, fn_app, List.map_cons, List.map_nil, List.cons_append, List.nil_append, List.append_nil, List.replicate, List.length_cons, List.length_nil, Nat.reduceSub, Nat.reduceAdd, sSeq_app, sSet_app, sRet_app, sIf_app, sNop_app, sRaise_app, e2_app, e1_app, eV_app, eC_app, eB_app, aC_app, aN_app, eTup_app, eLst_app, eCall0_app, eCall_app, eAnd_app, eOr_app, eNot_app, eIf_app, eChain_app, List.getElem?_cons_zero, List.getElem?_cons_succ, slotR, b2_ok, b1_ok, cons_ok, b_ok, set_ok, ret_ok, seq_nx, seq_rt, seq_exc, out_rt, out_nx, out_exc, List.set_cons_zero, List.set_cons_succ, R.go_ok, R.bind_ok, R.bindL_ok, RL.go_ok, sFor_app, iSeq_app, itOf_lst, itOf_tup, br_true, br_false, br_dec, brS_true, brS_false, brS_dec, truB, eTru_app, gAdd_int, gSub_int, gMul_int, gMod_pos, gFdiv_pos, gDivmod_pos, gShl_P, gShr_P, gAnd_int, gOr_int, gXor_int, gLt_int, gLe_int, gGt_int, gGe_int, gEq_int, gNe_int, gNeg_int, gLen_tup, gLen_lst, gMax_int, gMin_int, gAbs_int, gInt_int, gIs_non, gIsNot_non, eIsi2, isR_non_int, isR_non_bool, isR_non_str, isR_non_tuple, isR_non_list, isR_bl_int, isR_bl_bool, isR_bl_str, isR_bl_tuple, isR_bl_list, isR_int_int, isR_int_bool, isR_int_str, isR_int_tuple, isR_int_list, isR_str_int, isR_str_bool, isR_str_str, isR_str_tuple, isR_str_list, isR_tup_int, isR_tup_bool, isR_tup_str, isR_tup_tuple, isR_tup_list, isR_lst_int, isR_lst_bool, isR_lst_str, isR_lst_tuple, isR_lst_list, natlit, sTgt_app, gMany_eq, gMany_eqL, setMany_cons, setMany_nil, setMany_nil', ixt0, ixt1, ixt2, ixl0, ixl1, ixl2, ixl3, ixl4, ixl5, ixl6, ixl7, ixl8, ixl9, ixl10, ixl11, ixt3, ixt4, tupok, lstok, isNon_int, isNon_non, isNon_tup, isNon_lst, Bool.not_true, Bool.not_false, decide_true, decide_false, Bool.not_eq_true, decide_eq_true_eq, Bool.not_eq_eq_eq_not, Nat.reduceLeDiff, reduceIte, Int.reduceEq, Int.reduceLT, Int.reduceLE, Int.reduceAdd, Int.reduceSub, Int.reduceMul, Int.reduceNeg, Int.reduceMod, Int.reduceDiv, eLc_app, lcsize, lc_bind, lcL_nil, lcL_one, lcGo_f, lcGo_t, lcFin_ok, wipe_nil, wipe_cons, gNe_l0, gEq_l0, gNe_t2, gEq_t2, gNe_t3, gEq_t3, gEq_str, gNe_str, gEq_bl, gNe_bl, aApp_app, app2_ok, app2_exc, cons_exc1, cons_exc2, b_exc, b1_exc, b2_exc1, b2_exc2, br_exc, brS_exc, R.bind_exc, R.bindL_exc, RL.bind_exc, R.go_exc, RL.go_exc, ret_exc, set_exc, sTry_app, tryGo_nx, tryGo_rt, tryGo_exc, tryEnd_nx, tryEnd_rt, eIsx_app, isx_t, isx_f, isNon_exn, isNon_bl, isNon_str, sDrop_app, gInt_bl, sNew_app, new_ok, sApp_app, app_ok, sFrz_app, frz_own, frz_val, frz_none, eMeth_app, eSlB_app, eSlS_app, eSlN_app, sNewD_app, sPutD_app, eGetD_app, iRev_app, itRv_lst, itRv_tup, gRevL_lst, gVals_dct, gSorted_ints, gSum_ints, gMin3_int, keyP_str, keyP_int, optR_some, getR_some, lookK_hit, lookK_miss, get_own, get_val, gIxD_dct, put_own, putR_some, putD_new, frz_owd, bindI_ok, gSlL_lst, Bool.false_eq_true, and_self, and_true, true_and, Wy.str, Wy.cls, n7, n8, n9, n10]
theorem sp_goes_on (w : Wy) (s d : Int) (odd : Bool) : ∃ sem, lookC w.cls t_goes_on = some sem ∧ sem [.ins w.cls, .int s, .bl odd, .int d] = .ok (.bl (goes w s odd d)) := by
  cases w
  · refine ⟨m_Even_goes_on, by rfl, ?_⟩
    unfold m_Even_goes_on b_Even_goes_on
    by_cases h : 0 < d
    · simp (disch := walk_at "nfd") only [gIsB_bl, gIsNotB_bl, gList_lst, gList_tup, fn_app, List.map_cons, List.map_nil, List.cons_append, List.nil_append, List.append_nil, List.replicate, List.length_cons, List.length_nil, Nat.reduceSub, Nat.reduceAdd, sSeq_app, sSet_app, sRet_app, sIf_app, sNop_app, sRaise_app, e2_app, e1_app, eV_app, eC_app, eB_app, aC_app, aN_app, eTup_app, eLst_app, eCall0_app, eCall_app, eAnd_app, eOr_app, eNot_app, eIf_app, eChain_app, List.getElem?_cons_zero, List.getElem?_cons_succ, slotR, b2_ok, b1_ok, cons_ok, b_ok, set_ok, ret_ok, seq_nx, seq_rt, seq_exc, out_rt, out_nx, out_exc, List.set_cons_zero, List.set_cons_succ, R.go_ok, R.bind_ok, R.bindL_ok, RL.go_ok, sFor_app, iSeq_app, itOf_lst, itOf_tup, br_true, br_false, br_dec, brS_true, brS_false, brS_dec, truB, eTru_app, gAdd_int, gSub_int, gMul_int, gMod_pos, gFdiv_pos, gDivmod_pos, gShl_P, gShr_P, gAnd_int, gOr_int, gXor_int, gLt_int, gLe_int, gGt_int, gGe_int, gEq_int, gNe_int, gNeg_int, gLen_tup, gLen_lst, gMax_int, gMin_int, gAbs_int, gInt_int, gIs_non, gIsNot_non, eIsi2, isR_non_int, isR_non_bool, isR_non_str, isR_non_tuple, isR_non_list, isR_bl_int, isR_bl_bool, isR_bl_str, isR_bl_tuple, isR_bl_list, isR_int_int, isR_int_bool, isR_int_str, isR_int_tuple, isR_int_list, isR_str_int, isR_str_bool, isR_str_str, isR_str_tuple, isR_str_list, isR_tup_int, isR_tup_bool, isR_tup_str, isR_tup_tuple, isR_tup_list, isR_lst_int, isR_lst_bool, isR_lst_str, isR_lst_tuple, isR_lst_list, natlit, sTgt_app, gMany_eq, gMany_eqL, setMany_cons, setMany_nil, setMany_nil', ixt0, ixt1, ixt2, ixl0, ixl1, ixl2, ixl3, ixl4, ixl5, ixl6, ixl7, ixl8, ixl9, ixl10, ixl11, ixt3, ixt4, tupok, lstok, isNon_int, isNon_non, isNon_tup, isNon_lst, Bool.not_true, Bool.not_false, decide_true, decide_false, Bool.not_eq_true, decide_eq_true_eq, Bool.not_eq_eq_eq_not, Nat.reduceLeDiff, reduceIte, Int.reduceEq, Int.reduceLT, Int.reduceLE, Int.reduceAdd, Int.reduceSub, Int.reduceMul, Int.reduceNeg, Int.reduceMod, Int.reduceDiv, eLc_app, lcsize, lc_bind, lcL_nil, lcL_one, lcGo_f, lcGo_t, lcFin_ok, wipe_nil, wipe_cons, gNe_l0, gEq_l0, gNe_t2, gEq_t2, gNe_t3, gEq_t3, gEq_str, gNe_str, gEq_bl, gNe_bl, aApp_app, app2_ok, app2_exc, cons_exc1, cons_exc2, b_exc, b1_exc, b2_exc1, b2_exc2, br_exc, brS_exc, R.bind_exc, R.bindL_exc, RL.bind_exc, R.go_exc, RL.go_exc, ret_exc, set_exc, sTry_app, tryGo_nx, tryGo_rt, tryGo_exc, tryEnd_nx, tryEnd_rt, eIsx_app, isx_t, isx_f, isNon_exn, isNon_bl, isNon_str, sDrop_app, gInt_bl, sNew_app, new_ok, sApp_app, app_ok, sFrz_app, frz_own, frz_val, frz_none, eMeth_app, eSlB_app, eSlS_app, eSlN_app, sNewD_app, sPutD_app, eGetD_app, iRev_app, itRv_lst, itRv_tup, gRevL_lst, gVals_dct, gSorted_ints, gSum_ints, gMin3_int, keyP_str, keyP_int, optR_some, getR_some, lookK_hit, lookK_miss, get_own, get_val, gIxD_dct, put_own, putR_some, putD_new, frz_owd, bindI_ok, gSlL_lst, Bool.false_eq_true, and_self, and_true, true_and, Wy.cls, goes, h, Bool.true_or]
    · by_cases h2 : d = 0
      · simp (disch := walk_at "nfd") only [gIsB_bl, gIsNotB_bl, gList_lst, gList_tup, fn_app, List.map_cons, List.map_nil, List.cons_append, List.nil_append, List.append_nil, List.replicate, List.length_cons, List.length_nil, Nat.reduceSub, Nat.reduceAdd, sSeq_app, sSet_app, sRet_app, sIf_app, sNop_app, sRaise_app, e2_app, e1_app, eV_app, eC_app, eB_app, aC_app, aN_app, eTup_app, eLst_app, eCall0_app, eCall_app, eAnd_app, eOr_app, eNot_app, eIf_app, eChain_app, List.getElem?_cons_zero, List.getElem?_cons_succ, slotR, b2_ok, b1_ok, cons_ok, b_ok, set_ok, ret_ok, seq_nx, seq_rt, seq_exc, out_rt, out_nx, out_exc, List.set_cons_zero, List.set_cons_succ, R.go_ok, R.bind_ok, R.bindL_ok, RL.go_ok, sFor_app, iSeq_app, itOf_lst, itOf_tup, br_true, br_false, br_dec, brS_true, brS_false, brS_dec, truB, eTru_app, gAdd_int, gSub_int, gMul_int, gMod_pos, gFdiv_pos, gDivmod_pos, gShl_P, gShr_P, gAnd_int, gOr_int, gXor_int, gLt_int, gLe_int, gGt_int, gGe_int, gEq_int, gNe_int, gNeg_int, gLen_tup, gLen_lst, gMax_int, gMin_int, gAbs_int, gInt_int, gIs_non, gIsNot_non, eIsi2, isR_non_int, isR_non_bool, isR_non_str, isR_non_tuple, isR_non_list, isR_bl_int, isR_bl_bool, isR_bl_str, isR_bl_tuple, isR_bl_list, isR_int_int, isR_int_bool, isR_int_str, isR_int_tuple, isR_int_list, isR_str_int, isR_str_bool, isR_str_str, isR_str_tuple, isR_str_list, isR_tup_int, isR_tup_bool, isR_tup_str, isR_tup_tuple, isR_tup_list, isR_lst_int, isR_lst_bool, isR_lst_str, isR_lst_tuple, isR_lst_list, natlit, sTgt_app, gMany_eq, gMany_eqL, setMany_cons, setMany_nil, setMany_nil', ixt0, ixt1, ixt2, ixl0, ixl1, ixl2, ixl3, ixl4, ixl5, ixl6, ixl7, ixl8, ixl9, ixl10, ixl11, ixt3, ixt4, tupok, lstok, isNon_int, isNon_non, isNon_tup, isNon_lst, Bool.not_true, Bool.not_false, decide_true, decide_false, Bool.not_eq_true, decide_eq_true_eq, Bool.not_eq_eq_eq_not, Nat.reduceLeDiff, reduceIte, Int.reduceEq, Int.reduceLT, Int.reduceLE, Int.reduceAdd, Int.reduceSub, Int.reduceMul, Int.reduceNeg, Int.reduceMod, Int.reduceDiv, eLc_app, lcsize, lc_bind, lcL_nil, lcL_one, lcGo_f, lcGo_t, lcFin_ok, wipe_nil, wipe_cons, gNe_l0, gEq_l0, gNe_t2, gEq_t2, gNe_t3, gEq_t3, gEq_str, gNe_str, gEq_bl, gNe_bl, aApp_app, app2_ok, app2_exc, cons_exc1, cons_exc2, b_exc, b1_exc, b2_exc1, b2_exc2, br_exc, brS_exc, R.bind_exc, R.bindL_exc, RL.bind_exc, R.go_exc, RL.go_exc, ret_exc, set_exc, sTry_app, tryGo_nx, tryGo_rt, tryGo_exc, tryEnd_nx, tryEnd_rt, eIsx_app, isx_t, isx_f, isNon_exn, isNon_bl, isNon_str, sDrop_app, gInt_bl, sNew_app, new_ok, sApp_app, app_ok, sFrz_app, frz_own, frz_val, frz_none, eMeth_app, eSlB_app, eSlS_app, eSlN_app, sNewD_app, sPutD_app, eGetD_app, iRev_app, itRv_lst, itRv_tup, gRevL_lst, gVals_dct, gSorted_ints, gSum_ints, gMin3_int, keyP_str, keyP_int, optR_some, getR_some, lookK_hit, lookK_miss, get_own, get_val, gIxD_dct, put_own, putR_some, putD_new, frz_owd, bindI_ok, gSlL_lst, Bool.false_eq_true, and_self, and_true, true_and, Wy.cls, goes, h, h2, Bool.false_or, Bool.true_and]
      · simp (disch := walk_at "nfd") only [gIsB_bl, gIsNotB_bl, gList_lst, gList_tup, fn_app, List.map_cons, List.map_nil, List.cons_append, List.nil_append, List.append_nil, List.replicate, List.length_cons, List.length_nil, Nat.reduceSub, Nat.reduceAdd, sSeq_app, sSet_app, sRet_app, sIf_app, sNop_app, sRaise_app, e2_app, e1_app, eV_app, eC_app, eB_app, aC_app, aN_app, eTup_app, eLst_app, eCall0_app, eCall_app, eAnd_app, eOr_app, eNot_app, eIf_app, eChain_app, List.getElem?_cons_zero, List.getElem?_cons_succ, slotR, b2_ok, b1_ok, cons_ok, b_ok, set_ok, ret_ok, seq_nx, seq_rt, seq_exc, out_rt, out_nx, out_exc, List.set_cons_zero, List.set_cons_succ, R.go_ok, R.bind_ok, R.bindL_ok, RL.go_ok, sFor_app, iSeq_app, itOf_lst, itOf_tup, br_true, br_false, br_dec, brS_true, brS_false, brS_dec, truB, eTru_app, gAdd_int, gSub_int, gMul_int, gMod_pos, gFdiv_pos, gDivmod_pos, gShl_P, gShr_P, gAnd_int, gOr_int, gXor_int, gLt_int, gLe_int, gGt_int, gGe_int, gEq_int, gNe_int, gNeg_int, gLen_tup, gLen_lst, gMax_int, gMin_int, gAbs_int, gInt_int, gIs_non, gIsNot_non, eIsi2, isR_non_int, isR_non_bool, isR_non_str, isR_non_tuple, isR_non_list, isR_bl_int, isR_bl_bool, isR_bl_str, isR_bl_tuple, isR_bl_list, isR_int_int, isR_int_bool, isR_int_str, isR_int_tuple, isR_int_list, isR_str_int, isR_str_bool, isR_str_str, isR_str_tuple, isR_str_list, isR_tup_int, isR_tup_bool, isR_tup_str, isR_tup_tuple, isR_tup_list, isR_lst_int, isR_lst_bool, isR_lst_str, isR_lst_tuple, isR_lst_list, natlit, sTgt_app, gMany_eq, gMany_eqL, setMany_cons, setMany_nil, setMany_nil', ixt0, ixt1, ixt2, ixl0, ixl1, ixl2, ixl3, ixl4, ixl5, ixl6, ixl7, ixl8, ixl9, ixl10, ixl11, ixt3, ixt4, tupok, lstok, isNon_int, isNon_non, isNon_tup, isNon_lst, Bool.not_true, Bool.not_false, decide_true, decide_false, Bool.not_eq_true, decide_eq_true_eq, Bool.not_eq_eq_eq_not, Nat.reduceLeDiff, reduceIte, Int.reduceEq, Int.reduceLT, Int.reduceLE, Int.reduceAdd, Int.reduceSub, Int.reduceMul, Int.reduceNeg, Int.reduceMod, Int.reduceDiv, eLc_app, lcsize, lc_bind, lcL_nil, lcL_one, lcGo_f, lcGo_t, lcFin_ok, wipe_nil, wipe_cons, gNe_l0, gEq_l0, gNe_t2, gEq_t2, gNe_t3, gEq_t3, gEq_str, gNe_str, gEq_bl, gNe_bl, aApp_app, app2_ok, app2_exc, cons_exc1, cons_exc2, b_exc, b1_exc, b2_exc1, b2_exc2, br_exc, brS_exc, R.bind_exc, R.bindL_exc, RL.bind_exc, R.go_exc, RL.go_exc, ret_exc, set_exc, sTry_app, tryGo_nx, tryGo_rt, tryGo_exc, tryEnd_nx, tryEnd_rt, eIsx_app, isx_t, isx_f, isNon_exn, isNon_bl, isNon_str, sDrop_app, gInt_bl, sNew_app, new_ok, sApp_app, app_ok, sFrz_app, frz_own, frz_val, frz_none, eMeth_app, eSlB_app, eSlS_app, eSlN_app, sNewD_app, sPutD_app, eGetD_app, iRev_app, itRv_lst, itRv_tup, gRevL_lst, gVals_dct, gSorted_ints, gSum_ints, gMin3_int, keyP_str, keyP_int, optR_some, getR_some, lookK_hit, lookK_miss, get_own, get_val, gIxD_dct, put_own, putR_some, putD_new, frz_owd, bindI_ok, gSlL_lst, Bool.false_eq_true, and_self, and_true, true_and, Wy.cls, goes, h, h2, Bool.false_or, Bool.false_and]
  · refine ⟨m_Off_goes_on, by rfl, ?_⟩
    unfold m_Off_goes_on b_Off_goes_on
    simp (disch := walk_at "nfd") only [gIsB_bl, gIsNotB_bl, gList_lst, gList_tup, fn_app, List.map_cons, List.map_nil, List.cons_append, List.nil_append, List.append_nil, List.replicate, List.length_cons, List.length_nil, Nat.reduceSub, Nat.reduceAdd, sSeq_app, sSet_app, sRet_app, sIf_app, sNop_app, sRaise_app, e2_app, e1_app, eV_app, eC_app, eB_app, aC_app, aN_app, eTup_app, eLst_app, eCall0_app, eCall_app, eAnd_app, eOr_app, eNot_app, eIf_app, eChain_app, List.getElem?_cons_zero, List.getElem?_cons_succ, slotR, b2_ok, b1_ok, cons_ok, b_ok, set_ok, ret_ok, seq_nx, seq_rt, seq_exc, out_rt, out_nx, out_exc, List.set_cons_zero, List.set_cons_succ, R.go_ok, R.bind_ok, R.bindL_ok, RL.go_ok, sFor_app, iSeq_app, itOf_lst, itOf_tup, br_true, br_false, br_dec, brS_true, brS_false, brS_dec, truB, eTru_app, gAdd_int, gSub_int, gMul_int, gMod_pos, gFdiv_pos, gDivmod_pos, gShl_P, gShr_P, gAnd_int, gOr_int, gXor_int, gLt_int, gLe_int, gGt_int, gGe_int, gEq_int, gNe_int, gNeg_int, gLen_tup, gLen_lst, gMax_int, gMin_int, gAbs_int, gInt_int, gIs_non, gIsNot_non, eIsi2, isR_non_int, isR_non_bool, isR_non_str, isR_non_tuple, isR_non_list, isR_bl_int, isR_bl_bool, isR_bl_str, isR_bl_tuple, isR_bl_list, isR_int_int, isR_int_bool, isR_int_str, isR_int_tuple, isR_int_list, isR_str_int, isR_str_bool, isR_str_str, isR_str_tuple, isR_str_list, isR_tup_int, isR_tup_bool, isR_tup_str, isR_tup_tuple, isR_tup_list, isR_lst_int, isR_lst_bool, isR_lst_str, isR_lst_tuple, isR_lst_list, natlit, sTgt_app, gMany_eq, gMany_eqL, setMany_cons, setMany_nil, setMany_nil', ixt0, ixt1, ixt2, ixl0, ixl1, ixl2, ixl3, ixl4, ixl5, ixl6, ixl7, ixl8, ixl9, ixl10, ixl11, ixt3, ixt4, tupok, lstok, isNon_int, isNon_non, isNon_tup, isNon_lst, Bool.not_true, Bool.not_false, decide_true, decide_false, Bool.not_eq_true, decide_eq_true_eq, Bool.not_eq_eq_eq_not, Nat.reduceLeDiff, reduceIte, Int.reduceEq, Int.reduceLT, Int.reduceLE, Int.reduceAdd, Int.reduceSub, Int.reduceMul, Int.reduceNeg, Int.reduceMod, Int.reduceDiv, eLc_app, lcsize, lc_bind, lcL_nil, lcL_one, lcGo_f, lcGo_t, lcFin_ok, wipe_nil, wipe_cons, gNe_l0, gEq_l0, gNe_t2, gEq_t2, gNe_t3, gEq_t3, gEq_str, gNe_str, gEq_bl, gNe_bl, aApp_app, app2_ok, app2_exc, cons_exc1, cons_exc2, b_exc, b1_exc, b2_exc1, b2_exc2, br_exc, brS_exc, R.bind_exc, R.bindL_exc, RL.bind_exc, R.go_exc, RL.go_exc, ret_exc, set_exc, sTry_app, tryGo_nx, tryGo_rt, tryGo_exc, tryEnd_nx, tryEnd_rt, eIsx_app, isx_t, isx_f, isNon_exn, isNon_bl, isNon_str, sDrop_app, gInt_bl, sNew_app, new_ok, sApp_app, app_ok, sFrz_app, frz_own, frz_val, frz_none, eMeth_app, eSlB_app, eSlS_app, eSlN_app, sNewD_app, sPutD_app, eGetD_app, iRev_app, itRv_lst, itRv_tup, gRevL_lst, gVals_dct, gSorted_ints, gSum_ints, gMin3_int, keyP_str, keyP_int, optR_some, getR_some, lookK_hit, lookK_miss, get_own, get_val, gIxD_dct, put_own, putR_some, putD_new, frz_owd, bindI_ok, gSlL_lst, Bool.false_eq_true, and_self, and_true, true_and, Wy.cls, goes]
  · refine ⟨m_Way_goes_on, by rfl, ?_⟩
    unfold m_Way_goes_on b_Way_goes_on
    simp (disch := walk_at "nfd") only [gIsB_bl, gIsNotB_bl, gList_lst, gList_tup, fn_app, List.map_cons, List.map_nil, List.cons_append, List.nil_append, List.append_nil, List.replicate, List.length_cons, List.length_nil, Nat.reduceSub, Nat.reduceAdd, sSeq_app, sSet_app, sRet_app, sIf_app, sNop_app, sRaise_app, e2_app, e1_app, eV_app, eC_app, eB_app, aC_app, aN_app, eTup_app, eLst_app, eCall0_app, eCall_app, eAnd_app, eOr_app, eNot_app, eIf_app, eChain_app, List.getElem?_cons_zero, List.getElem?_cons_succ, slotR, b2_ok, b1_ok, cons_ok, b_ok, set_ok, ret_ok, seq_nx, seq_rt, seq_exc, out_rt, out_nx, out_exc, List.set_cons_zero, List.set_cons_succ, R.go_ok, R.bind_ok, R.bindL_ok, RL.go_ok, sFor_app, iSeq_app, itOf_lst, itOf_tup, br_true, br_false, br_dec, brS_true, brS_false, brS_dec, truB, eTru_app, gAdd_int, gSub_int, gMul_int, gMod_pos, gFdiv_pos, gDivmod_pos, gShl_P, gShr_P, gAnd_int, gOr_int, gXor_int, gLt_int, gLe_int, gGt_int, gGe_int, gEq_int, gNe_int, gNeg_int, gLen_tup, gLen_lst, gMax_int, gMin_int, gAbs_int, gInt_int, gIs_non, gIsNot_non, eIsi2, isR_non_int, isR_non_bool, isR_non_str, isR_non_tuple, isR_non_list, isR_bl_int, isR_bl_bool, isR_bl_str, isR_bl_tuple, isR_bl_list, isR_int_int, isR_int_bool, isR_int_str, isR_int_tuple, isR_int_list, isR_str_int, isR_str_bool, isR_str_str, isR_str_tuple, isR_str_list, isR_tup_int, isR_tup_bool, isR_tup_str, isR_tup_tuple, isR_tup_list, isR_lst_int, isR_lst_bool, isR_lst_str, isR_lst_tuple, isR_lst_list, natlit, sTgt_app, gMany_eq, gMany_eqL, setMany_cons, setMany_nil, setMany_nil', ixt0, ixt1, ixt2, ixl0, ixl1, ixl2, ixl3, ixl4, ixl5, ixl6, ixl7, ixl8, ixl9, ixl10, ixl11, ixt3, ixt4, tupok, lstok, isNon_int, isNon_non, isNon_tup, isNon_lst, Bool.not_true, Bool.not_false, decide_true, decide_false, Bool.not_eq_true, decide_eq_true_eq, Bool.not_eq_eq_eq_not, Nat.reduceLeDiff, reduceIte, Int.reduceEq, Int.reduceLT, Int.reduceLE, Int.reduceAdd, Int.reduceSub, Int.reduceMul, Int.reduceNeg, Int.reduceMod, Int.reduceDiv, eLc_app, lcsize, lc_bind, lcL_nil, lcL_one, lcGo_f, lcGo_t, lcFin_ok, wipe_nil, wipe_cons, gNe_l0, gEq_l0, gNe_t2, gEq_t2, gNe_t3, gEq_t3, gEq_str, gNe_str, gEq_bl, gNe_bl, aApp_app, app2_ok, app2_exc, cons_exc1, cons_exc2, b_exc, b1_exc, b2_exc1, b2_exc2, br_exc, brS_exc, R.bind_exc, R.bindL_exc, RL.bind_exc, R.go_exc, RL.go_exc, ret_exc, set_exc, sTry_app, tryGo_nx, tryGo_rt, tryGo_exc, tryEnd_nx, tryEnd_rt, eIsx_app, isx_t, isx_f, isNon_exn, isNon_bl, isNon_str, sDrop_app, gInt_bl, sNew_app, new_ok, sApp_app, app_ok, sFrz_app, frz_own, frz_val, frz_none, eMeth_app, eSlB_app, eSlS_app, eSlN_app, sNewD_app, sPutD_app, eGetD_app, iRev_app, itRv_lst, itRv_tup, gRevL_lst, gVals_dct, gSorted_ints, gSum_ints, gMin3_int, keyP_str, keyP_int, optR_some, getR_some, lookK_hit, lookK_miss, get_own, get_val, gIxD_dct, put_own, putR_some, putD_new, frz_owd, bindI_ok, gSlL_lst, Bool.false_eq_true, and_self, and_true, true_and, Wy.cls, goes]
  · refine ⟨m_Up_goes_on, by rfl, ?_⟩
    unfold m_Up_goes_on b_Up_goes_on
    simp (disch := walk_at "nfd") only [gIsB_bl, gIsNotB_bl, gList_lst, gList_tup, fn_app, List.map_cons, List.map_nil, List.cons_append, List.nil_append, List.append_nil, List.replicate, List.length_cons, List.length_nil, Nat.reduceSub, Nat.reduceAdd, sSeq_app, sSet_app, sRet_app, sIf_app, sNop_app, sRaise_app, e2_app, e1_app, eV_app, eC_app, eB_app, aC_app, aN_app, eTup_app, eLst_app, eCall0_app, eCall_app, eAnd_app, eOr_app, eNot_app, eIf_app, eChain_app, List.getElem?_cons_zero, List.getElem?_cons_succ, slotR, b2_ok, b1_ok, cons_ok, b_ok, set_ok, ret_ok, seq_nx, seq_rt, seq_exc, out_rt, out_nx, out_exc, List.set_cons_zero, List.set_cons_succ, R.go_ok, R.bind_ok, R.bindL_ok, RL.go_ok, sFor_app, iSeq_app, itOf_lst, itOf_tup, br_true, br_false, br_dec, brS_true, brS_false, brS_dec, truB, eTru_app, gAdd_int, gSub_int, gMul_int, gMod_pos, gFdiv_pos, gDivmod_pos, gShl_P, gShr_P, gAnd_int, gOr_int, gXor_int, gLt_int, gLe_int, gGt_int, gGe_int, gEq_int, gNe_int, gNeg_int, gLen_tup, gLen_lst, gMax_int, gMin_int, gAbs_int, gInt_int, gIs_non, gIsNot_non, eIsi2, isR_non_int, isR_non_bool, isR_non_str, isR_non_tuple, isR_non_list, isR_bl_int, isR_bl_bool, isR_bl_str, isR_bl_tuple, isR_bl_list, isR_int_int, isR_int_bool, isR_int_str, isR_int_tuple, isR_int_list, isR_str_int, isR_str_bool, isR_str_str, isR_str_tuple, isR_str_list, isR_tup_int, isR_tup_bool, isR_tup_str, isR_tup_tuple, isR_tup_list, isR_lst_int, isR_lst_bool, isR_lst_str, isR_lst_tuple, isR_lst_list, natlit, sTgt_app, gMany_eq, gMany_eqL, setMany_cons, setMany_nil, setMany_nil', ixt0, ixt1, ixt2, ixl0, ixl1, ixl2, ixl3, ixl4, ixl5, ixl6, ixl7, ixl8, ixl9, ixl10, ixl11, ixt3, ixt4, tupok, lstok, isNon_int, isNon_non, isNon_tup, isNon_lst, Bool.not_true, Bool.not_false, decide_true, decide_false, Bool.not_eq_true, decide_eq_true_eq, Bool.not_eq_eq_eq_not, Nat.reduceLeDiff, reduceIte, Int.reduceEq, Int.reduceLT, Int.reduceLE, Int.reduceAdd, Int.reduceSub, Int.reduceMul, Int.reduceNeg, Int.reduceMod, Int.reduceDiv, eLc_app, lcsize, lc_bind, lcL_nil, lcL_one, lcGo_f, lcGo_t, lcFin_ok, wipe_nil, wipe_cons, gNe_l0, gEq_l0, gNe_t2, gEq_t2, gNe_t3, gEq_t3, gEq_str, gNe_str, gEq_bl, gNe_bl, aApp_app, app2_ok, app2_exc, cons_exc1, cons_exc2, b_exc, b1_exc, b2_exc1, b2_exc2, br_exc, brS_exc, R.bind_exc, R.bindL_exc, RL.bind_exc, R.go_exc, RL.go_exc, ret_exc, set_exc, sTry_app, tryGo_nx, tryGo_rt, tryGo_exc, tryEnd_nx, tryEnd_rt, eIsx_app, isx_t, isx_f, isNon_exn, isNon_bl, isNon_str, sDrop_app, gInt_bl, sNew_app, new_ok, sApp_app, app_ok, sFrz_app, frz_own, frz_val, frz_none, eMeth_app, eSlB_app, eSlS_app, eSlN_app, sNewD_app, sPutD_app, eGetD_app, iRev_app, itRv_lst, itRv_tup, gRevL_lst, gVals_dct, gSorted_ints, gSum_ints, gMin3_int, keyP_str, keyP_int, optR_some, getR_some, lookK_hit, lookK_miss, get_own, get_val, gIxD_dct, put_own, putR_some, putD_new, frz_owd, bindI_ok, gSlL_lst, Bool.false_eq_true, and_self, and_true, true_and, Wy.cls, goes]
  · refine ⟨m_Down_goes_on, by rfl, ?_⟩
    unfold m_Down_goes_on b_Down_goes_on
    simp (disch := walk_at "nfd") only [gIsB_bl, gIsNotB_bl, gList_lst, gList_tup, fn_app, List.map_cons, List.map_nil, List.cons_append, List.nil_append, List.append_nil, List.replicate, List.length_cons, List.length_nil, Nat.reduceSub, Nat.reduceAdd, sSeq_app, sSet_app, sRet_app, sIf_app, sNop_app, sRaise_app, e2_app, e1_app, eV_app, eC_app, eB_app, aC_app, aN_app, eTup_app, eLst_app, eCall0_app, eCall_app, eAnd_app, eOr_app, eNot_app, eIf_app, eChain_app, List.getElem?_cons_zero, List.getElem?_cons_succ, slotR, b2_ok, b1_ok, cons_ok, b_ok, set_ok, ret_ok, seq_nx, seq_rt, seq_exc, out_rt, out_nx, out_exc, List.set_cons_zero, List.set_cons_succ, R.go_ok, R.bind_ok, R.bindL_ok, RL.go_ok, sFor_app, iSeq_app, itOf_lst, itOf_tup, br_true, br_false, br_dec, brS_true, brS_false, brS_dec, truB, eTru_app, gAdd_int, gSub_int, gMul_int, gMod_pos, gFdiv_pos, gDivmod_pos, gShl_P, gShr_P, gAnd_int, gOr_int, gXor_int, gLt_int, gLe_int, gGt_int, gGe_int, gEq_int, gNe_int, gNeg_int, gLen_tup, gLen_lst, gMax_int, gMin_int, gAbs_int, gInt_int, gIs_non, gIsNot_non, eIsi2, isR_non_int, isR_non_bool, isR_non_str, isR_non_tuple, isR_non_list, isR_bl_int, isR_bl_bool, isR_bl_str, isR_bl_tuple, isR_bl_list, isR_int_int, isR_int_bool, isR_int_str, isR_int_tuple, isR_int_list, isR_str_int, isR_str_bool, isR_str_str, isR_str_tuple, isR_str_list, isR_tup_int, isR_tup_bool, isR_tup_str, isR_tup_tuple, isR_tup_list, isR_lst_int, isR_lst_bool, isR_lst_str, isR_lst_tuple, isR_lst_list, natlit, sTgt_app, gMany_eq, gMany_eqL, setMany_cons, setMany_nil, setMany_nil', ixt0, ixt1, ixt2, ixl0, ixl1, ixl2, ixl3, ixl4, ixl5, ixl6, ixl7, ixl8, ixl9, ixl10, ixl11, ixt3, ixt4, tupok, lstok, isNon_int, isNon_non, isNon_tup, isNon_lst, Bool.not_true, Bool.not_false, decide_true, decide_false, Bool.not_eq_true, decide_eq_true_eq, Bool.not_eq_eq_eq_not, Nat.reduceLeDiff, reduceIte, Int.reduceEq, Int.reduceLT, Int.reduceLE, Int.reduceAdd, Int.reduceSub, Int.reduceMul, Int.reduceNeg, Int.reduceMod, Int.reduceDiv, eLc_app, lcsize, lc_bind, lcL_nil, lcL_one, lcGo_f, lcGo_t, lcFin_ok, wipe_nil, wipe_cons, gNe_l0, gEq_l0, gNe_t2, gEq_t2, gNe_t3, gEq_t3, gEq_str, gNe_str, gEq_bl, gNe_bl, aApp_app, app2_ok, app2_exc, cons_exc1, cons_exc2, b_exc, b1_exc, b2_exc1, b2_exc2, br_exc, brS_exc, R.bind_exc, R.bindL_exc, RL.bind_exc, R.go_exc, RL.go_exc, ret_exc, set_exc, sTry_app, tryGo_nx, tryGo_rt, tryGo_exc, tryEnd_nx, tryEnd_rt, eIsx_app, isx_t, isx_f, isNon_exn, isNon_bl, isNon_str, sDrop_app, gInt_bl, sNew_app, new_ok, sApp_app, app_ok, sFrz_app, frz_own, frz_val, frz_none, eMeth_app, eSlB_app, eSlS_app, eSlN_app, sNewD_app, sPutD_app, eGetD_app, iRev_app, itRv_lst, itRv_tup, gRevL_lst, gVals_dct, gSorted_ints, gSum_ints, gMin3_int, keyP_str, keyP_int, optR_some, getR_some, lookK_hit, lookK_miss, get_own, get_val, gIxD_dct, put_own, putR_some, putD_new, frz_owd, bindI_ok, gSlL_lst, Bool.false_eq_true, and_self, and_true, true_and, Wy.cls, goes]
theorem sp_ends (w : Wy) (s : Int) : ∃ sem, lookC w.cls t_ends = some sem ∧ sem [.ins w.cls, .int s] = .ok (.bl (ends w s)) := by
  cases w
  · refine ⟨m_Even_ends, by rfl, ?_⟩
    unfold m_Even_ends b_Even_ends
    simp (disch := walk_at "nfd") only [gIsB_bl, gIsNotB_bl, gList_lst, gList_tup, fn_app, List.map_cons, List.map_nil, List.cons_append, List.nil_append, List.append_nil, List.replicate, List.length_cons, List.length_nil, Nat.reduceSub, Nat.reduceAdd, sSeq_app, sSet_app, sRet_app, sIf_app, sNop_app, sRaise_app, e2_app, e1_app, eV_app, eC_app, eB_app, aC_app, aN_app, eTup_app, eLst_app, eCall0_app, eCall_app, eAnd_app, eOr_app, eNot_app, eIf_app, eChain_app, List.getElem?_cons_zero, List.getElem?_cons_succ, slotR, b2_ok, b1_ok, cons_ok, b_ok, set_ok, ret_ok, seq_nx, seq_rt, seq_exc, out_rt, out_nx, out_exc, List.set_cons_zero, List.set_cons_succ, R.go_ok, R.bind_ok, R.bindL_ok, RL.go_ok, sFor_app, iSeq_app, itOf_lst, itOf_tup, br_true, br_false, br_dec, brS_true, brS_false, brS_dec, truB, eTru_app, gAdd_int, gSub_int, gMul_int, gMod_pos, gFdiv_pos, gDivmod_pos, gShl_P, gShr_P, gAnd_int, gOr_int, gXor_int, gLt_int, gLe_int, gGt_int, gGe_int, gEq_int, gNe_int, gNeg_int, gLen_tup, gLen_lst, gMax_int, gMin_int, gAbs_int, gInt_int, gIs_non, gIsNot_non, eIsi2, isR_non_int, isR_non_bool, isR_non_str, isR_non_tuple, isR_non_list, isR_bl_int, isR_bl_bool, isR_bl_str, isR_bl_tuple, isR_bl_list, isR_int_int, isR_int_bool, isR_int_str, isR_int_tuple, isR_int_list, isR_str_int, isR_str_bool, isR_str_str, isR_str_tuple, isR_str_list, isR_tup_int, isR_tup_bool, isR_tup_str, isR_tup_tuple, isR_tup_list, isR_lst_int, isR_lst_bool, isR_lst_str, isR_lst_tuple, isR_lst_list, natlit, sTgt_app, gMany_eq, gMany_eqL, setMany_cons, setMany_nil, setMany_nil', ixt0, ixt1, ixt2, ixl0, ixl1, ixl2, ixl3, ixl4, ixl5, ixl6, ixl7, ixl8, ixl9, ixl10, ixl11, ixt3, ixt4, tupok, lstok, isNon_int, isNon_non, isNon_tup, isNon_lst, Bool.not_true, Bool.not_false, decide_true, decide_false, Bool.not_eq_true, decide_eq_true_eq, Bool.not_eq_eq_eq_not, Nat.reduceLeDiff, reduceIte, Int.reduceEq, Int.reduceLT, Int.reduceLE, Int.reduceAdd, Int.reduceSub, Int.reduceMul, Int.reduceNeg, Int.reduceMod, Int.reduceDiv, eLc_app, lcsize, lc_bind, lcL_nil, lcL_one, lcGo_f, lcGo_t, lcFin_ok, wipe_nil, wipe_cons, gNe_l0, gEq_l0, gNe_t2, gEq_t2, gNe_t3, gEq_t3, gEq_str, gNe_str, gEq_bl, gNe_bl, aApp_app, app2_ok, app2_exc, cons_exc1, cons_exc2, b_exc, b1_exc, b2_exc1, b2_exc2, br_exc, brS_exc, R.bind_exc, R.bindL_exc, RL.bind_exc, R.go_exc, RL.go_exc, ret_exc, set_exc, sTry_app, tryGo_nx, tryGo_rt, tryGo_exc, tryEnd_nx, tryEnd_rt, eIsx_app, isx_t, isx_f, isNon_exn, isNon_bl, isNon_str, sDrop_app, gInt_bl, sNew_app, new_ok, sApp_app, app_ok, sFrz_app, frz_own, frz_val, frz_none, eMeth_app, eSlB_app, eSlS_app, eSlN_app, sNewD_app, sPutD_app, eGetD_app, iRev_app, itRv_lst, itRv_tup, gRevL_lst, gVals_dct, gSorted_ints, gSum_ints, gMin3_int, keyP_str, keyP_int, optR_some, getR_some, lookK_hit, lookK_miss, get_own, get_val, gIxD_dct, put_own, putR_some, putD_new, frz_owd, bindI_ok, gSlL_lst, Bool.false_eq_true, and_self, and_true, true_and, Wy.cls, ends]
  · refine ⟨m_Off_ends, by rfl, ?_⟩
    unfold m_Off_ends b_Off_ends
    simp (disch := walk_at "nfd") only [gIsB_bl, gIsNotB_bl, gList_lst, gList_tup, fn_app, List.map_cons, List.map_nil, List.cons_append, List.nil_append, List.append_nil, List.replicate, List.length_cons, List.length_nil, Nat.reduceSub, Nat.reduceAdd, sSeq_app, sSet_app, sRet_app, sIf_app, sNop_app, sRaise_app, e2_app, e1_app, eV_app, eC_app, eB_app, aC_app, aN_app, eTup_app, eLst_app, eCall0_app, eCall_app, eAnd_app, eOr_app, eNot_app, eIf_app, eChain_app, List.getElem?_cons_zero, List.getElem?_cons_succ, slotR, b2_ok, b1_ok, cons_ok, b_ok, set_ok, ret_ok, seq_nx, seq_rt, seq_exc, out_rt, out_nx, out_exc, List.set_cons_zero, List.set_cons_succ, R.go_ok, R.bind_ok, R.bindL_ok, RL.go_ok, sFor_app, iSeq_app, itOf_lst, itOf_tup, br_true, br_false, br_dec, brS_true, brS_false, brS_dec, truB, eTru_app, gAdd_int, gSub_int, gMul_int, gMod_pos, gFdiv_pos, gDivmod_pos, gShl_P, gShr_P, gAnd_int, gOr_int, gXor_int, gLt_int, gLe_int, gGt_int, gGe_int, gEq_int, gNe_int, gNeg_int, gLen_tup, gLen_lst, gMax_int, gMin_int, gAbs_int, gInt_int, gIs_non, gIsNot_non, eIsi2, isR_non_int, isR_non_bool, isR_non_str, isR_non_tuple, isR_non_list, isR_bl_int, isR_bl_bool, isR_bl_str, isR_bl_tuple, isR_bl_list, isR_int_int, isR_int_bool, isR_int_str, isR_int_tuple, isR_int_list, isR_str_int, isR_str_bool, isR_str_str, isR_str_tuple, isR_str_list, isR_tup_int, isR_tup_bool, isR_tup_str, isR_tup_tuple, isR_tup_list, isR_lst_int, isR_lst_bool, isR_lst_str, isR_lst_tuple, isR_lst_list, natlit, sTgt_app, gMany_eq, gMany_eqL, setMany_cons, setMany_nil, setMany_nil', ixt0, ixt1, ixt2, ixl0, ixl1, ixl2, ixl3, ixl4, ixl5, ixl6, ixl7, ixl8, ixl9, ixl10, ixl11, ixt3, ixt4, tupok, lstok, isNon_int, isNon_non, isNon_tup, isNon_lst, Bool.not_true, Bool.not_false, decide_true, decide_false, Bool.not_eq_true, decide_eq_true_eq, Bool.not_eq_eq_eq_not, Nat.reduceLeDiff, reduceIte, Int.reduceEq, Int.reduceLT, Int.reduceLE, Int.reduceAdd, Int.reduceSub, Int.reduceMul, Int.reduceNeg, Int.reduceMod, Int.reduceDiv, eLc_app, lcsize, lc_bind, lcL_nil, lcL_one, lcGo_f, lcGo_t, lcFin_ok, wipe_nil, wipe_cons, gNe_l0, gEq_l0, gNe_t2, gEq_t2, gNe_t3, gEq_t3, gEq_str, gNe_str, gEq_bl, gNe_bl, aApp_app, app2_ok, app2_exc, cons_exc1, cons_exc2, b_exc, b1_exc, b2_exc1, b2_exc2, br_exc, brS_exc, R.bind_exc, R.bindL_exc, RL.bind_exc, R.go_exc, RL.go_exc, ret_exc, set_exc, sTry_app, tryGo_nx, tryGo_rt, tryGo_exc, tryEnd_nx, tryEnd_rt, eIsx_app, isx_t, isx_f, isNon_exn, isNon_bl, isNon_str, sDrop_app, gInt_bl, sNew_app, new_ok, sApp_app, app_ok, sFrz_app, frz_own, frz_val, frz_none, eMeth_app, eSlB_app, eSlS_app, eSlN_app, sNewD_app, sPutD_app, eGetD_app, iRev_app, itRv_lst, itRv_tup, gRevL_lst, gVals_dct, gSorted_ints, gSum_ints, gMin3_int, keyP_str, keyP_int, optR_some, getR_some, lookK_hit, lookK_miss, get_own, get_val, gIxD_dct, put_own, putR_some, putD_new, frz_owd, bindI_ok, gSlL_lst, Bool.false_eq_true, and_self, and_true, true_and, Wy.cls, ends]
  · refine ⟨m_Way_ends, by rfl, ?_⟩
    unfold m_Way_ends b_Way_ends
    simp (disch := walk_at "nfd") only [gIsB_bl, gIsNotB_bl, gList_lst, gList_tup, fn_app, List.map_cons, List.map_nil, List.cons_append, List.nil_append, List.append_nil, List.replicate, List.length_cons, List.length_nil, Nat.reduceSub, Nat.reduceAdd, sSeq_app, sSet_app, sRet_app, sIf_app, sNop_app, sRaise_app, e2_app, e1_app, eV_app, eC_app, eB_app, aC_app, aN_app, eTup_app, eLst_app, eCall0_app, eCall_app, eAnd_app, eOr_app, eNot_app, eIf_app, eChain_app, List.getElem?_cons_zero, List.getElem?_cons_succ, slotR, b2_ok, b1_ok, cons_ok, b_ok, set_ok, ret_ok, seq_nx, seq_rt, seq_exc, out_rt, out_nx, out_exc, List.set_cons_zero, List.set_cons_succ, R.go_ok, R.bind_ok, R.bindL_ok, RL.go_ok, sFor_app, iSeq_app, itOf_lst, itOf_tup, br_true, br_false, br_dec, brS_true, brS_false, brS_dec, truB, eTru_app, gAdd_int, gSub_int, gMul_int, gMod_pos, gFdiv_pos, gDivmod_pos, gShl_P, gShr_P, gAnd_int, gOr_int, gXor_int, gLt_int, gLe_int, gGt_int, gGe_int, gEq_int, gNe_int, gNeg_int, gLen_tup, gLen_lst, gMax_int, gMin_int, gAbs_int, gInt_int, gIs_non, gIsNot_non, eIsi2, isR_non_int, isR_non_bool, isR_non_str, isR_non_tuple, isR_non_list, isR_bl_int, isR_bl_bool, isR_bl_str, isR_bl_tuple, isR_bl_list, isR_int_int, isR_int_bool, isR_int_str, isR_int_tuple, isR_int_list, isR_str_int, isR_str_bool, isR_str_str, isR_str_tuple, isR_str_list, isR_tup_int, isR_tup_bool, isR_tup_str, isR_tup_tuple, isR_tup_list, isR_lst_int, isR_lst_bool, isR_lst_str, isR_lst_tuple, isR_lst_list, natlit, sTgt_app, gMany_eq, gMany_eqL, setMany_cons, setMany_nil, setMany_nil', ixt0, ixt1, ixt2, ixl0, ixl1, ixl2, ixl3, ixl4, ixl5, ixl6, ixl7, ixl8, ixl9, ixl10, ixl11, ixt3, ixt4, tupok, lstok, isNon_int, isNon_non, isNon_tup, isNon_lst, Bool.not_true, Bool.not_false, decide_true, decide_false, Bool.not_eq_true, decide_eq_true_eq, Bool.not_eq_eq_eq_not, Nat.reduceLeDiff, reduceIte, Int.reduceEq, Int.reduceLT, Int.reduceLE, Int.reduceAdd, Int.reduceSub, Int.reduceMul, Int.reduceNeg, Int.reduceMod, Int.reduceDiv, eLc_app, lcsize, lc_bind, lcL_nil, lcL_one, lcGo_f, lcGo_t, lcFin_ok, wipe_nil, wipe_cons, gNe_l0, gEq_l0, gNe_t2, gEq_t2, gNe_t3, gEq_t3, gEq_str, gNe_str, gEq_bl, gNe_bl, aApp_app, app2_ok, app2_exc, cons_exc1, cons_exc2, b_exc, b1_exc, b2_exc1, b2_exc2, br_exc, brS_exc, R.bind_exc, R.bindL_exc, RL.bind_exc, R.go_exc, RL.go_exc, ret_exc, set_exc, sTry_app, tryGo_nx, tryGo_rt, tryGo_exc, tryEnd_nx, tryEnd_rt, eIsx_app, isx_t, isx_f, isNon_exn, isNon_bl, isNon_str, sDrop_app, gInt_bl, sNew_app, new_ok, sApp_app, app_ok, sFrz_app, frz_own, frz_val, frz_none, eMeth_app, eSlB_app, eSlS_app, eSlN_app, sNewD_app, sPutD_app, eGetD_app, iRev_app, itRv_lst, itRv_tup, gRevL_lst, gVals_dct, gSorted_ints, gSum_ints, gMin3_int, keyP_str, keyP_int, optR_some, getR_some, lookK_hit, lookK_miss, get_own, get_val, gIxD_dct, put_own, putR_some, putD_new, frz_owd, bindI_ok, gSlL_lst, Bool.false_eq_true, and_self, and_true, true_and, Wy.cls, ends]
  · refine ⟨m_Up_ends, by rfl, ?_⟩
    unfold m_Up_ends b_Up_ends
    simp (disch := walk_at "nfd") only [gIsB_bl, gIsNotB_bl, gList_lst, gList_tup, fn_app, List.map_cons, List.map_nil, List.cons_append, List.nil_append, List.append_nil, List.replicate, List.length_cons, List.length_nil, Nat.reduceSub, Nat.reduceAdd, sSeq_app, sSet_app, sRet_app, sIf_app, sNop_app, sRaise_app, e2_app, e1_app, eV_app, eC_app, eB_app, aC_app, aN_app, eTup_app, eLst_app, eCall0_app, eCall_app, eAnd_app, eOr_app, eNot_app, eIf_app, eChain_app, List.getElem?_cons_zero, List.getElem?_cons_succ, slotR, b2_ok, b1_ok, cons_ok, b_ok, set_ok, ret_ok, seq_nx, seq_rt, seq_exc, out_rt, out_nx, out_exc, List.set_cons_zero, List.set_cons_succ, R.go_ok, R.bind_ok, R.bindL_ok, RL.go_ok, sFor_app, iSeq_app, itOf_lst, itOf_tup, br_true, br_false, br_dec, brS_true, brS_false, brS_dec, truB, eTru_app, gAdd_int, gSub_int, gMul_int, gMod_pos, gFdiv_pos, gDivmod_pos, gShl_P, gShr_P, gAnd_int, gOr_int, gXor_int, gLt_int, gLe_int, gGt_int, gGe_int, gEq_int, gNe_int, gNeg_int, gLen_tup, gLen_lst, gMax_int, gMin_int, gAbs_int, gInt_int, gIs_non, gIsNot_non, eIsi2, isR_non_int, isR_non_bool, isR_non_str, isR_non_tuple, isR_non_list, isR_bl_int, isR_bl_bool, isR_bl_str, isR_bl_tuple, isR_bl_list, isR_int_int, isR_int_bool, isR_int_str, isR_int_tuple, isR_int_list, isR_str_int, isR_str_bool, isR_str_str, isR_str_tuple, isR_str_list, isR_tup_int, isR_tup_bool, isR_tup_str, isR_tup_tuple, isR_tup_list, isR_lst_int, isR_lst_bool, isR_lst_str, isR_lst_tuple, isR_lst_list, natlit, sTgt_app, gMany_eq, gMany_eqL, setMany_cons, setMany_nil, setMany_nil', ixt0, ixt1, ixt2, ixl0, ixl1, ixl2, ixl3, ixl4, ixl5, ixl6, ixl7, ixl8, ixl9, ixl10, ixl11, ixt3, ixt4, tupok, lstok, isNon_int, isNon_non, isNon_tup, isNon_lst, Bool.not_true, Bool.not_false, decide_true, decide_false, Bool.not_eq_true, decide_eq_true_eq, Bool.not_eq_eq_eq_not, Nat.reduceLeDiff, reduceIte, Int.reduceEq, Int.reduceLT, Int.reduceLE, Int.reduceAdd, Int.reduceSub, Int.reduceMul, Int.reduceNeg, Int.reduceMod, Int.reduceDiv, eLc_app, lcsize, lc_bind, lcL_nil, lcL_one, lcGo_f, lcGo_t, lcFin_ok, wipe_nil, wipe_cons, gNe_l0, gEq_l0, gNe_t2, gEq_t2, gNe_t3, gEq_t3, gEq_str, gNe_str, gEq_bl, gNe_bl, aApp_app, app2_ok, app2_exc, cons_exc1, cons_exc2, b_exc, b1_exc, b2_exc1, b2_exc2, br_exc, brS_exc, R.bind_exc, R.bindL_exc, RL.bind_exc, R.go_exc, RL.go_exc, ret_exc, set_exc, sTry_app, tryGo_nx, tryGo_rt, tryGo_exc, tryEnd_nx, tryEnd_rt, eIsx_app, isx_t, isx_f, isNon_exn, isNon_bl, isNon_str, sDrop_app, gInt_bl, sNew_app, new_ok, sApp_app, app_ok, sFrz_app, frz_own, frz_val, frz_none, eMeth_app, eSlB_app, eSlS_app, eSlN_app, sNewD_app, sPutD_app, eGetD_app, iRev_app, itRv_lst, itRv_tup, gRevL_lst, gVals_dct, gSorted_ints, gSum_ints, gMin3_int, keyP_str, keyP_int, optR_some, getR_some, lookK_hit, lookK_miss, get_own, get_val, gIxD_dct, put_own, putR_some, putD_new, frz_owd, bindI_ok, gSlL_lst, Bool.false_eq_true, and_self, and_true, true_and, Wy.cls, ends]
  · refine ⟨m_Down_ends, by rfl, ?_⟩
    unfold m_Down_ends b_Down_ends
    simp (disch := walk_at "nfd") only [gIsB_bl, gIsNotB_bl, gList_lst, gList_tup, fn_app, List.map_cons, List.map_nil, List.cons_append, List.nil_append, List.append_nil, List.replicate, List.length_cons, List.length_nil, Nat.reduceSub, Nat.reduceAdd, sSeq_app, sSet_app, sRet_app, sIf_app, sNop_app, sRaise_app, e2_app, e1_app, eV_app, eC_app, eB_app, aC_app, aN_app, eTup_app, eLst_app, eCall0_app, eCall_app, eAnd_app, eOr_app, eNot_app, eIf_app, eChain_app, List.getElem?_cons_zero, List.getElem?_cons_succ, slotR, b2_ok, b1_ok, cons_ok, b_ok, set_ok, ret_ok, seq_nx, seq_rt, seq_exc, out_rt, out_nx, out_exc, List.set_cons_zero, List.set_cons_succ, R.go_ok, R.bind_ok, R.bindL_ok, RL.go_ok, sFor_app, iSeq_app, itOf_lst, itOf_tup, br_true, br_false, br_dec, brS_true, brS_false, brS_dec, truB, eTru_app, gAdd_int, gSub_int, gMul_int, gMod_pos, gFdiv_pos, gDivmod_pos, gShl_P, gShr_P, gAnd_int, gOr_int, gXor_int, gLt_int, gLe_int, gGt_int, gGe_int, gEq_int, gNe_int, gNeg_int, gLen_tup, gLen_lst, gMax_int, gMin_int, gAbs_int, gInt_int, gIs_non, gIsNot_non, eIsi2, isR_non_int, isR_non_bool, isR_non_str, isR_non_tuple, isR_non_list, isR_bl_int, isR_bl_bool, isR_bl_str, isR_bl_tuple, isR_bl_list, isR_int_int, isR_int_bool, isR_int_str, isR_int_tuple, isR_int_list, isR_str_int, isR_str_bool, isR_str_str, isR_str_tuple, isR_str_list, isR_tup_int, isR_tup_bool, isR_tup_str, isR_tup_tuple, isR_tup_list, isR_lst_int, isR_lst_bool, isR_lst_str, isR_lst_tuple, isR_lst_list, natlit, sTgt_app, gMany_eq, gMany_eqL, setMany_cons, setMany_nil, setMany_nil', ixt0, ixt1, ixt2, ixl0, ixl1, ixl2, ixl3, ixl4, ixl5, ixl6, ixl7, ixl8, ixl9, ixl10, ixl11, ixt3, ixt4, tupok, lstok, isNon_int, isNon_non, isNon_tup, isNon_lst, Bool.not_true, Bool.not_false, decide_true, decide_false, Bool.not_eq_true, decide_eq_true_eq, Bool.not_eq_eq_eq_not, Nat.reduceLeDiff, reduceIte, Int.reduceEq, Int.reduceLT, Int.reduceLE, Int.reduceAdd, Int.reduceSub, Int.reduceMul, Int.reduceNeg, Int.reduceMod, Int.reduceDiv, eLc_app, lcsize, lc_bind, lcL_nil, lcL_one, lcGo_f, lcGo_t, lcFin_ok, wipe_nil, wipe_cons, gNe_l0, gEq_l0, gNe_t2, gEq_t2, gNe_t3, gEq_t3, gEq_str, gNe_str, gEq_bl, gNe_bl, aApp_app, app2_ok, app2_exc, cons_exc1, cons_exc2, b_exc, b1_exc, b2_exc1, b2_exc2, br_exc, brS_exc, R.bind_exc, R.bindL_exc, RL.bind_exc, R.go_exc, RL.go_exc, ret_exc, set_exc, sTry_app, tryGo_nx, tryGo_rt, tryGo_exc, tryEnd_nx, tryEnd_rt, eIsx_app, isx_t, isx_f, isNon_exn, isNon_bl, isNon_str, sDrop_app, gInt_bl, sNew_app, new_ok, sApp_app, app_ok, sFrz_app, frz_own, frz_val, frz_none, eMeth_app, eSlB_app, eSlS_app, eSlN_app, sNewD_app, sPutD_app, eGetD_app, iRev_app, itRv_lst, itRv_tup, gRevL_lst, gVals_dct, gSorted_ints, gSum_ints, gMin3_int, keyP_str, keyP_int, optR_some, getR_some, lookK_hit, lookK_miss, get_own, get_val, gIxD_dct, put_own, putR_some, putD_new, frz_owd, bindI_ok, gSlL_lst, Bool.false_eq_true, and_self, and_true, true_and, Wy.cls, ends]
/-! ### rounding -/
def sid (x : Int) : Int := (if 0 < x then 1 else 0) - (if x < 0 then 1 else 0)
/-- what lies between a size k and the next one -/
def rmid (e m s k : Int) (w : Wy) (d : Int) (faint : Bool) : Int × Int :=
  if goes w s (decide (k % 2 = 1)) d then (s * P (e + m) + (k + 1), 1 + (if faint then 2 else 0) + (if k + 1 = P (e + m) - P m then 4 else 0))
  else (s * P (e + m) + k, 1 + (if faint then 2 else 0))
def rnd (e m s U B : Int) (w : Wy) : Int × Int :=
  if hgt m (P (e + m) - P m) * B ≤ U then (s * P (e + m) + (if ends w s then P (e + m) - P m else P (e + m) - P m - 1), 5)
  else if hgt m (sz m (U / B)) * B = U then (s * P (e + m) + sz m (U / B), 0)
  else rmid e m s (sz m (U / B)) w (sid (2 * U - (hgt m (sz m (U / B)) + hgt m (sz m (U / B) + 1)) * B)) (decide (U < B * P m))
section
variable {e m : Int} [E : Se e] [M : Sm m]
end
end Nf

namespace Nf
open PySem PySem.Spec PyProof.Rows L2
local macro_rules | `(tactic| walk_at "nfd") => `(tactic| (first | exact cmul_of (by decide +kernel) | exact cshl (by omega) (by decide +kernel) | assumption | omega | exact P_pos _ | exact nopyP (by decide +kernel) | exact nopy_small (by decide +kernel) | decide +kernel | (refine id ?_; with_unfolding_all rfl)))
theorem sp_L_cellN {ns : List Int} (k : Nat) : m_L_cell_41e6 [.lst (ns.map .int), .int (no_index (OfNat.ofNat k))] = .ok (.int (ns.getD k 0)) := sp_L_cell k
section
variable {e m : Int} [E : Se e] [M : Sm m]
end
/-! ### the lowest place -/
end Nf

namespace Nf
open PySem PySem.Spec PyProof.Rows L2
local macro_rules | `(tactic| walk_at "nfd") => `(tactic| (first | exact cmul_of (by decide +kernel) | exact cshl (by omega) (by decide +kernel) | assumption | omega | exact P_pos _ | exact nopyP (by decide +kernel) | exact nopy_small (by decide +kernel) | decide +kernel | (refine id ?_; with_unfolding_all rfl)))
/-- a written row of ways -/
def AllW (l : List PV) : Prop := ∀ p ∈ l, ∃ w : Wy, p = .str w.str
section
variable {e m : Int} [E : Se e] [M : Sm m]
end
end Nf

namespace Nf
open PySem PySem.Spec PyProof.Rows L2
local macro_rules | `(tactic| walk_at "nfd") => `(tactic| (first | exact cmul_of (by decide +kernel) | exact cshl (by omega) (by decide +kernel) | assumption | omega | exact P_pos _ | exact nopyP (by decide +kernel) | exact nopy_small (by decide +kernel) | decide +kernel | (refine id ?_; with_unfolding_all rfl)))
/-! ### what lies between two sizes, told by parts -/
section
variable {e m : Int} [E : Se e] [M : Sm m]
end
theorem sp_L_goes_51bd (w : Wy) (s : Int) (odd : Bool) (d : Int) (hd : d = 1 ∨ d = 0 ∨ d = -1) : m_L_goes_51bd [.str w.str, .int s, .bl odd, .int d] = .ok (.bl (goes w s odd d)) := by
  obtain ⟨n1, n2, n3, n4, n5, n6, n7, n8, n9, n10⟩ := ways_ne
  obtain ⟨i1, i2, i3, i4, i5, i6, i7, i8, i9, i10⟩ := ways_ne2
  unfold m_L_goes_51bd b_L_goes_51bd
  rcases hd with rfl | rfl | rfl <;> cases w <;> simp (disch := walk_at "nfd") only [gIsB_bl, gIsNotB_bl, gList_lst, gList_tup, fn_app, List.map_cons, List.map_nil, List.cons_append, List.nil_append, List.append_nil, List.replicate, List.length_cons, List.length_nil, Nat.reduceSub, Nat.reduceAdd, sSeq_app, sSet_app, sRet_app, sIf_app, sNop_app, sRaise_app, e2_app, e1_app, eV_app, eC_app, eB_app, aC_app, aN_app, eTup_app, eLst_app, eCall0_app, eCall_app, eAnd_app, eOr_app, eNot_app, eIf_app, eChain_app, List.getElem?_cons_zero, List.getElem?_cons_succ, slotR, b2_ok, b1_ok, cons_ok, b_ok, set_ok, ret_ok, seq_nx, seq_rt, seq_exc, out_rt, out_nx, out_exc, List.set_cons_zero, List.set_cons_succ, R.go_ok, R.bind_ok, R.bindL_ok, RL.go_ok, sFor_app, iSeq_app, itOf_lst, itOf_tup, br_true, br_false, br_dec, brS_true, brS_false, brS_dec, truB, eTru_app, gAdd_int, gSub_int, gMul_int, gMod_pos, gFdiv_pos, gDivmod_pos, gShl_P, gShr_P, gAnd_int, gOr_int, gXor_int, gLt_int, gLe_int, gGt_int, gGe_int, gEq_int, gNe_int, gNeg_int, gLen_tup, gLen_lst, gMax_int, gMin_int, gAbs_int, gInt_int, gIs_non, gIsNot_non, eIsi2, isR_non_int, isR_non_bool, isR_non_str, isR_non_tuple, isR_non_list, isR_bl_int, isR_bl_bool, isR_bl_str, isR_bl_tuple, isR_bl_list, isR_int_int, isR_int_bool, isR_int_str, isR_int_tuple, isR_int_list, isR_str_int, isR_str_bool, isR_str_str, isR_str_tuple, isR_str_list, isR_tup_int, isR_tup_bool, isR_tup_str, isR_tup_tuple, isR_tup_list, isR_lst_int, isR_lst_bool, isR_lst_str, isR_lst_tuple, isR_lst_list, natlit, sTgt_app, gMany_eq, gMany_eqL, setMany_cons, setMany_nil, setMany_nil', ixt0, ixt1, ixt2, ixl0, ixl1, ixl2, ixl3, ixl4, ixl5, ixl6, ixl7, ixl8, ixl9, ixl10, ixl11, ixt3, ixt4, tupok, lstok, isNon_int, isNon_non, isNon_tup, isNon_lst, Bool.not_true, Bool.not_false, decide_true, decide_false, Bool.not_eq_true, decide_eq_true_eq, Bool.not_eq_eq_eq_not, Nat.reduceLeDiff, reduceIte, Int.reduceEq, Int.reduceLT, Int.reduceLE, Int.reduceAdd, Int.reduceSub, Int.reduceMul, Int.reduceNeg, Int.reduceMod, Int.reduceDiv, eLc_app, lcsize, lc_bind, lcL_nil, lcL_one, lcGo_f, lcGo_t, lcFin_ok, wipe_nil, wipe_cons, gNe_l0, gEq_l0, gNe_t2, gEq_t2, gNe_t3, gEq_t3, gEq_str, gNe_str, gEq_bl, gNe_bl, aApp_app, app2_ok, app2_exc, cons_exc1, cons_exc2, b_exc, b1_exc, b2_exc1, b2_exc2, br_exc, brS_exc, R.bind_exc, R.bindL_exc, RL.bind_exc, R.go_exc, RL.go_exc, ret_exc, set_exc, sTry_app, tryGo_nx, tryGo_rt, tryGo_exc, tryEnd_nx, tryEnd_rt, eIsx_app, isx_t, isx_f, isNon_exn, isNon_bl, isNon_str, sDrop_app, gInt_bl, sNew_app, new_ok, sApp_app, app_ok, sFrz_app, frz_own, frz_val, frz_none, eMeth_app, eSlB_app, eSlS_app, eSlN_app, sNewD_app, sPutD_app, eGetD_app, iRev_app, itRv_lst, itRv_tup, gRevL_lst, gVals_dct, gSorted_ints, gSum_ints, gMin3_int, keyP_str, keyP_int, optR_some, getR_some, lookK_hit, lookK_miss, get_own, get_val, gIxD_dct, put_own, putR_some, putD_new, frz_owd, bindI_ok, gSlL_lst, Bool.false_eq_true, and_self, and_true, true_and, Wy.str, goes, n1, n2, n3, n4, n5, n6, n7, n8, n9, n10, i1, i2, i3, i4, i5, i6, i7, i8, i9, i10, brS_b, Bool.true_or, Bool.false_or, Bool.true_and, Bool.false_and, Bool.and_true, Bool.and_false, br_b]
end Nf

namespace Nf
open PySem PySem.Spec PyProof.Rows L2
local macro_rules | `(tactic| walk_at "nfd") => `(tactic| (first | exact cmul_of (by decide +kernel) | exact cshl (by omega) (by decide +kernel) | assumption | omega | exact P_pos _ | exact nopyP (by decide +kernel) | exact nopy_small (by decide +kernel) | decide +kernel | (refine id ?_; with_unfolding_all rfl)))
/-! ### a drawn word, a drawn thing -/
theorem pick5 (c : Int) : ∃ w : Wy, gIx (.lst [.str "even", .str "off", .str "in", .str "up", .str "down"]) (.int (c % 5)) = .ok (.str w.str) := by
  have h : c % 5 = 0 ∨ c % 5 = 1 ∨ c % 5 = 2 ∨ c % 5 = 3 ∨ c % 5 = 4 := by omega
  rcases h with h | h | h | h | h <;> rw [h]
  · exact ⟨.even, ixl0⟩
  · exact ⟨.off, ixl1⟩
  · exact ⟨.inn, ixl2⟩
  · exact ⟨.up, ixl3⟩
  · exact ⟨.down, ixl4⟩
section
variable {e m : Int} [E : Se e] [M : Sm m]
end
end Nf

namespace Nf
open PySem PySem.Spec PyProof.Rows L2
local macro_rules | `(tactic| walk_at "nfd") => `(tactic| (first | exact cmul_of (by decide +kernel) | exact cshl (by omega) (by decide +kernel) | assumption | omega | exact P_pos _ | exact nopyP (by decide +kernel) | exact nopy_small (by decide +kernel) | decide +kernel | (refine id ?_; with_unfolding_all rfl)))
/-! ### bits put together, the other way -/
section
variable {e m : Int} [E : Se e] [M : Sm m]
/-! ### stilled -/
end
/-! ### nones among rows -/
/-- the sign and the size of bits -/
abbrev sg (e m b : Int) : Int := b / P (e + m)
abbrev si (e m b : Int) : Int := b % P (e + m)
def Bt (e m b : Int) : Prop := 0 ≤ b ∧ b < 2 * P (e + m)
def stl (e m b : Int) : Int := if b % P m < P (m - 1) then b + P (m - 1) else b
def nst (e m : Int) (p : Option Int × Int) (b : Int) : Option Int × Int :=
  if P (e + m) - P m < b % P (e + m) then (some (p.1.getD (stl e m b)), if b % P (e + m) < P (e + m) - P m + P (m - 1) then 16 else p.2) else p
def nfo (e m : Int) (l : List Int) : Option Int × Int := l.foldl (nst e m) (none, 0)
def oPV : Option Int → PV
  | none => .non
  | some f => .int f
def nres (p : Option Int × Int) : PV := match p.1 with
  | none => .non
  | some f => .tup [.int f, .int p.2]
section
variable {e m : Int} [E : Se e] [M : Sm m]
/-- the told none -/
def tnn (e m : Int) : Int := P (e + m) - P m + P (m - 1)
end
end Nf

namespace Nf
open PySem PySem.Spec PyProof.Rows L2
local macro_rules | `(tactic| walk_at "nfd") => `(tactic| (first | exact cmul_of (by decide +kernel) | exact cshl (by omega) (by decide +kernel) | assumption | omega | exact P_pos _ | exact nopyP (by decide +kernel) | exact nopy_small (by decide +kernel) | decide +kernel | (refine id ?_; with_unfolding_all rfl)))
section
variable {e m : Int} [E : Se e] [M : Sm m]
/-! ### the laws' own look for nones -/
/-! ### drawn rows of all kinds -/
/-! ### the quotient -/
abbrev sx (e m a b : Int) : Int := (a / P (e + m) + b / P (e + m)) % 2
end
end Nf

namespace Nf
open PySem PySem.Spec PyProof.Rows L2
local macro_rules | `(tactic| walk_at "nfd") => `(tactic| (first | exact cmul_of (by decide +kernel) | exact cshl (by omega) (by decide +kernel) | assumption | omega | exact P_pos _ | exact nopyP (by decide +kernel) | exact nopy_small (by decide +kernel) | decide +kernel | (refine id ?_; with_unfolding_all rfl)))
/-! ### what is a height -/
section
variable {m : Int} [M : Sm m]
end
/-! ### the nearest rest -/
def nrest (t b : Int) : Int × Int :=
  if (b.natAbs : Int) < 2 * (t.fmod b).natAbs ∨ (2 * ((t.fmod b).natAbs : Int) = b.natAbs ∧ t.fdiv b % 2 = 1) then (t.fdiv b + 1, t.fmod b - b) else (t.fdiv b, t.fmod b)
section
variable {e m : Int} [E : Se e] [M : Sm m]
end
end Nf

namespace Nf
open PySem PySem.Spec PyProof.Rows L2
local macro_rules | `(tactic| walk_at "nfd") => `(tactic| (first | exact cmul_of (by decide +kernel) | exact cshl (by omega) (by decide +kernel) | assumption | omega | exact P_pos _ | exact nopyP (by decide +kernel) | exact nopy_small (by decide +kernel) | decide +kernel | (refine id ?_; with_unfolding_all rfl)))
/-! ### conditions kept whole -/
section
variable {e m : Int} [E : Se e] [M : Sm m]
theorem Num.bt {b : Int} (h : Num e m b) : Bt e m b := ⟨h.1, h.2.1⟩
end
end Nf

namespace Nf
open PySem PySem.Spec PyProof.Rows L2
local macro_rules | `(tactic| walk_at "nfd") => `(tactic| (first | exact cmul_of (by decide +kernel) | exact cshl (by omega) (by decide +kernel) | assumption | omega | exact P_pos _ | exact nopyP (by decide +kernel) | exact nopy_small (by decide +kernel) | decide +kernel | (refine id ?_; with_unfolding_all rfl)))
abbrev tp (p : Int × Int) : PV := .tup [.int p.1, .int p.2]
def dn (w : Wy) : Int := if w.str = ("down" : Str) then 1 else 0
/-- a sum that is told: exact, or a nought -/
def sgnd (x : Int) : Int := if x < 0 then 1 else 0
def sumv (e m top B : Int) (al : Option Int) (w : Wy) : Int × Int :=
  if top = 0 then ((al.getD (dn w)) * P (e + m), 0) else rnd e m (sgnd top) ((top.natAbs : Int) * P (grn e m)) B w
def alk (e m a b : Int) : Option Int := if a / P (e + m) = b / P (e + m) then some (a / P (e + m)) else none
section
variable {e m : Int} [E : Se e] [M : Sm m]
/-! ### plus and minus, of no nones -/
def plusv (e m a b : Int) (w : Wy) : Int × Int :=
  if a % P (e + m) = P (e + m) - P m then (if b % P (e + m) = P (e + m) - P m ∧ ¬ a = b then (tnn e m, 16) else (a, 0))
  else if b % P (e + m) = P (e + m) - P m then (b, 0)
  else sumv e m (unt e m a + unt e m b) (P (grn e m)) (alk e m a b) w
def NoN (e m b : Int) : Prop := Bt e m b ∧ ¬ P (e + m) - P m < b % P (e + m)
theorem Num.non {b : Int} (h : Num e m b) : NoN e m b := ⟨h.bt, by have := h.2.2; omega⟩
/-! ### times -/
def ebn (e m a b : Int) : Prop := a % P (e + m) = 0 ∧ b % P (e + m) = P (e + m) - P m ∨ b % P (e + m) = 0 ∧ a % P (e + m) = P (e + m) - P m
instance {a b : Int} : Decidable (ebn e m a b) := inferInstanceAs (Decidable (_ ∨ _))
def timesv (e m a b : Int) (w : Wy) : Int × Int :=
  if ebn e m a b then (tnn e m, 16)
  else if a % P (e + m) = P (e + m) - P m ∨ b % P (e + m) = P (e + m) - P m then (sx e m a b * P (e + m) + (P (e + m) - P m), 0)
  else rnd e m (sx e m a b) (((unt e m a * unt e m b).natAbs : Int) * P (grn e m)) (P (2 * grn e m)) w
/-! ### the one step -/
def stepv (e m a b c : Int) (w : Wy) : Int × Int :=
  if ebn e m a b then (tnn e m, 16)
  else if a % P (e + m) = P (e + m) - P m ∨ b % P (e + m) = P (e + m) - P m then (if c % P (e + m) = P (e + m) - P m ∧ ¬ c / P (e + m) = sx e m a b then (tnn e m, 16) else (sx e m a b * P (e + m) + (P (e + m) - P m), 0))
  else if c % P (e + m) = P (e + m) - P m then (c, 0)
  else sumv e m (unt e m a * unt e m b + unt e m c * P (grn e m)) (P (2 * grn e m)) (if c / P (e + m) = sx e m a b then some (sx e m a b) else none) w
end
end Nf

namespace Nf
open PySem PySem.Spec PyProof.Rows L2
local macro_rules | `(tactic| walk_at "nfd") => `(tactic| (first | exact cmul_of (by decide +kernel) | exact cshl (by omega) (by decide +kernel) | assumption | omega | exact P_pos _ | exact nopyP (by decide +kernel) | exact nopy_small (by decide +kernel) | decide +kernel | (refine id ?_; with_unfolding_all rfl)))
/-! ### the second bank of the laws' helpers -/
section
variable {e m : Int} [E : Se e] [M : Sm m]
end
end Nf

namespace Nf
open PySem PySem.Spec PyProof.Rows L2
local macro_rules | `(tactic| walk_at "nfd") => `(tactic| (first | exact cmul_of (by decide +kernel) | exact cshl (by omega) (by decide +kernel) | assumption | omega | exact P_pos _ | exact nopyP (by decide +kernel) | exact nopy_small (by decide +kernel) | decide +kernel | (refine id ?_; with_unfolding_all rfl)))
section
variable {e m : Int} [E : Se e] [M : Sm m]
/-! ### the first none, the laws' own way -/
def isNb (e m b : Int) : Bool := decide (P (e + m) - P m < b % P (e + m))
def isLb (e m b : Int) : Bool := decide (b % P (e + m) < P (e + m) - P m + P (m - 1))
end
end Nf

namespace Nf
open PySem PySem.Spec PyProof.Rows L2
local macro_rules | `(tactic| walk_at "nfd") => `(tactic| (first | exact cmul_of (by decide +kernel) | exact cshl (by omega) (by decide +kernel) | assumption | omega | exact P_pos _ | exact nopyP (by decide +kernel) | exact nopy_small (by decide +kernel) | decide +kernel | (refine id ?_; with_unfolding_all rfl)))
/-! ### the cells of a law, with some more behind them -/
section
variable {e m : Int} [E : Se e] [M : Sm m]
/-! ### sums of numbers -/
end
end Nf

namespace Nf
open PySem PySem.Spec PyProof.Rows L2
local macro_rules | `(tactic| walk_at "nfd") => `(tactic| (first | exact cmul_of (by decide +kernel) | exact cshl (by omega) (by decide +kernel) | assumption | omega | exact P_pos _ | exact nopyP (by decide +kernel) | exact nopy_small (by decide +kernel) | decide +kernel | (refine id ?_; with_unfolding_all rfl)))
def Wy.mir : Wy → Wy
  | .even => .even | .off => .off | .inn => .inn | .up => .down | .down => .up
section
variable {e m : Int} [E : Se e] [M : Sm m]
/-- the number of worth 1 -/
def unit1 (e m : Int) : Int := (P (e - 1) - 1) * P m
/-! ### the one step and the others -/
end
end Nf

namespace Nf
open PySem PySem.Spec PyProof.Rows L2
local macro_rules | `(tactic| walk_at "nfd") => `(tactic| (first | exact cmul_of (by decide +kernel) | exact cshl (by omega) (by decide +kernel) | assumption | omega | exact P_pos _ | exact nopyP (by decide +kernel) | exact nopy_small (by decide +kernel) | decide +kernel | (refine id ?_; with_unfolding_all rfl)))
/-! ### the third bank: a rounded answer looked at -/
section
variable {e m : Int} [E : Se e] [M : Sm m]
end
end Nf

namespace Nf
open PySem PySem.Spec PyProof.Rows L2
local macro_rules | `(tactic| walk_at "nfd") => `(tactic| (first | exact cmul_of (by decide +kernel) | exact cshl (by omega) (by decide +kernel) | assumption | omega | exact P_pos _ | exact nopyP (by decide +kernel) | exact nopy_small (by decide +kernel) | decide +kernel | (refine id ?_; with_unfolding_all rfl)))
/-! ### from one shape to another -/
section
variable {e m : Int} [E : Se e] [M : Sm m]
/-- a stilled none's body -/
def ybd (m b : Int) : Int := if b % P m < P (m - 1) then b % P m + P (m - 1) else b % P m
end
section
variable {e m f n : Int} [E : Se e] [M : Sm m] [F : Se f] [N : Sm n]
/-- the body in the other shape -/
def mbd (m n b : Int) : Int := if m ≤ n then ybd m b * P (n - m) else ybd m b / P (m - n)
def mvv (e m f n b : Int) (w : Wy) : Int × Int :=
  if P (e + m) - P m < b % P (e + m) then (b / P (e + m) * P (f + n) + (P f - 1) * P n + mbd m n b, if b % P m < P (m - 1) then 16 else 0)
  else if b % P (e + m) = P (e + m) - P m then (b / P (e + m) * P (f + n) + (P (f + n) - P n), 0)
  else rnd f n (b / P (e + m)) (hgt m (b % P (e + m)) * P (grn f n)) (P (grn e m)) w
/-! ### a shape that holds another one -/
end
end Nf

namespace Nf
open PySem PySem.Spec PyProof.Rows L2
local macro_rules | `(tactic| walk_at "nfd") => `(tactic| (first | exact cmul_of (by decide +kernel) | exact cshl (by omega) (by decide +kernel) | assumption | omega | exact P_pos _ | exact nopyP (by decide +kernel) | exact nopy_small (by decide +kernel) | decide +kernel | (refine id ?_; with_unfolding_all rfl)))
/-! ### lists of bits by cells -/
section
variable {e m : Int} [E : Se e] [M : Sm m]
end
end Nf

namespace Nf
open PySem PySem.Spec PyProof.Rows L2
local macro_rules | `(tactic| walk_at "nfd") => `(tactic| (first | exact cmul_of (by decide +kernel) | exact cshl (by omega) (by decide +kernel) | assumption | omega | exact P_pos _ | exact nopyP (by decide +kernel) | exact nopy_small (by decide +kernel) | decide +kernel | (refine id ?_; with_unfolding_all rfl)))
/-! ### a dict by the five ways -/
def wk : List Key := [.inr "even", .inr "off", .inr "in", .inr "up", .inr "down"]
def dW (f : Wy → Int) : PV := .dct wk [.int (f .even), .int (f .off), .int (f .inn), .int (f .up), .int (f .down)]
section
variable {e m : Int} [E : Se e] [M : Sm m]
/-- the size and the flags that a thing of units U / B is rounded to -/
def rsz (e m s U B : Int) (w : Wy) : Int := (rnd e m s U B w).1 - s * P (e + m)
def rfg (e m s U B : Int) (w : Wy) : Int := (rnd e m s U B w).2
end
end Nf

namespace Nf
open PySem PySem.Spec PyProof.Rows L2
local macro_rules | `(tactic| walk_at "nfd") => `(tactic| (first | exact cmul_of (by decide +kernel) | exact cshl (by omega) (by decide +kernel) | assumption | omega | exact P_pos _ | exact nopyP (by decide +kernel) | exact nopy_small (by decide +kernel) | decide +kernel | (refine id ?_; with_unfolding_all rfl)))
/-! ### sums of many terms -/
/-- a term: its sign, its size, none of an end -/
abbrev Tm : Type := Int × Option Int
def tmP (t : Tm) : PV := .tup [.int t.1, match t.2 with | some h => .int h | none => .non]
def tmE (t : Tm) : Bool := t.2.isNone
def tmV (t : Tm) : Int := match t.2 with
  | some h => if t.1 = 1 then -h else h
  | none => 0
def wsum (l : List Tm) : Int := (l.map tmV).sum
/-- the sign of a nought sum -/
def sgn0 (l : List Tm) (w : Wy) : Int := if (∀ t ∈ l, t.2.getD 0 ≤ 0) ∧ ¬ (0 ∈ l.map (·.1) ∧ 1 ∈ l.map (·.1)) then (if 1 ∈ l.map (·.1) then 1 else 0) else dn w
section
variable {e m : Int} [E : Se e] [M : Sm m]
/-- what a sum of terms over B tells -/
def sumT (e m : Int) (l : List Tm) (B : Int) (w : Wy) : Int × Int :=
  if (∃ t ∈ l, tmE t = true ∧ t.1 = 0) ∧ ∃ t ∈ l, tmE t = true ∧ t.1 = 1 then (tnn e m, 16)
  else if ∃ t ∈ l, tmE t = true then ((if ∃ t ∈ l, tmE t = true ∧ t.1 = 1 then 1 else 0) * P (e + m) + (P (e + m) - P m), 0)
  else if wsum l = 0 then (sgn0 l w * P (e + m), 0)
  else rnd e m (sgnd (wsum l)) ((wsum l).natAbs * P (grn e m)) B w
/-- a row as a term -/
def tmO (e m b : Int) : Tm := (b / P (e + m), if b % P (e + m) < P (e + m) - P m then some (hgt m (b % P (e + m))) else none)
end
end Nf

namespace Nf
open PySem PySem.Spec PyProof.Rows L2 SX
local macro_rules | `(tactic| walk_at "nfd") => `(tactic| (first | exact cmul_of (by decide +kernel) | exact cshl (by omega) (by decide +kernel) | assumption | omega | (simp only [List.length_append, List.length_cons, List.length_nil, List.length_take, List.length_drop]; omega) | exact P_pos _ | exact nopyP (by decide +kernel) | exact nopy_small (by decide +kernel) | decide +kernel | (refine id ?_; with_unfolding_all rfl)))
/-! ### signs below 128, so many at most -/
def Asc (n : Nat) (l : List Nat) : Prop := (∀ c ∈ l, c < 128) ∧ l.length ≤ n
theorem Asc.nil {n : Nat} : Asc n [] := ⟨(fun c h => nomatch h), Nat.zero_le _⟩
theorem Asc.mono {n m : Nat} {a : List Nat} (h : Asc n a) (hm : n ≤ m) : Asc m a := ⟨h.1, Nat.le_trans h.2 hm⟩
theorem Asc.take {n k : Nat} {a : List Nat} (h : Asc n a) : Asc n (a.take k) := ⟨fun c hc => h.1 c (List.mem_of_mem_take hc), by rw [List.length_take]; have := h.2; omega⟩
theorem Asc.drop {n k : Nat} {a : List Nat} (h : Asc n a) : Asc n (a.drop k) := ⟨fun c hc => h.1 c (List.mem_of_mem_drop hc), by rw [List.length_drop]; have := h.2; omega⟩
theorem str_tx (s : Str) : PV.str s = tx s.cps.toList := by unfold tx; rw [S_tl]
theorem tx_at {l : List Nat} {i : Int} (hl : l.length ≤ 100000) (h0 : 0 ≤ i) (h1 : i < l.length) : ∃ c, c ∈ l ∧ gIx (tx l) (.int i) = .ok (tx [c]) := by
  obtain ⟨c, hc, _⟩ := drop_c (l := l) (h := i.toNat) (by omega)
  exact ⟨c, List.mem_of_getElem? hc, tx_ixI hl h0 hc⟩
/-! ### is_good -/
def lastD (l : List Nat) : Bool := !(l.drop (l.length - 1)).isEmpty && digL (l.drop (l.length - 1))
def isg (l : List Nat) : Bool := if goodL l < l.length then false else decide (wEnd <:+ l) || lastD l
def isg16 (l : List Nat) : Bool := if good16 l < l.length then false else decide (114 ∈ l) && lastD l
/-! ### the laws' own looks -/
/-- a good text, the law's look -/
def lgd (l : List Nat) : Bool := begL l && !decide (l = []) && (decide (l = wEnd) || (decide (l = 45 :: wEnd) || decide (l.getD (l.length - 1) 0 ∈ dgs)))
end Nf

namespace Nf
open PySem PySem.Spec PyProof.Rows L2 SX
local macro_rules | `(tactic| walk_at "nfd") => `(tactic| (first | exact cmul_of (by decide +kernel) | exact cshl (by omega) (by decide +kernel) | assumption | omega | (simp only [List.length_append, List.length_cons, List.length_nil, List.length_take, List.length_drop]; omega) | exact P_pos _ | exact nopyP (by decide +kernel) | exact nopy_small (by decide +kernel) | decide +kernel | (refine id ?_; with_unfolding_all rfl)))
/-! ### drawn texts -/
end Nf

namespace Nf
open PySem PySem.Spec PyProof.Rows L2 SX
local macro_rules | `(tactic| walk_at "nfd") => `(tactic| (first | exact cmul_of (by decide +kernel) | exact cshl (by omega) (by decide +kernel) | assumption | omega | (simp only [List.length_append, List.length_cons, List.length_nil, List.length_take, List.length_drop]; omega) | exact P_pos _ | exact nopyP (by decide +kernel) | exact nopy_small (by decide +kernel) | decide +kernel | (refine id ?_; with_unfolding_all rfl)))
def k21T : List (Str × Bool) := [("Even", true), ("Off", true), ("In", true), ("Up", true), ("Down", true)]
theorem isn_cls (w : Wy) : isnR [("Even", true), ("Off", true), ("In", true), ("Up", true), ("Down", true)] (.ins w.cls) = .ok (.bl true) := by cases w <;> rfl
theorem k21_ends (w : Wy) {s : Int} (hs : s = 0 ∨ s = 1) : m_L_ends_8cc6 [.str w.str, .int s] = .ok (.bl (ends w s)) := by
  unfold m_L_ends_8cc6 b_L_ends_8cc6
  rcases hs with rfl | rfl <;> cases w
  all_goals (simp only [show Wy.even.str = ("even" : Str) from rfl, show Wy.off.str = ("off" : Str) from rfl, show Wy.inn.str = ("in" : Str) from rfl, show Wy.up.str = ("up" : Str) from rfl, show Wy.down.str = ("down" : Str) from rfl]; simp (disch := walk_at "nfd") only [gIsB_bl, gIsNotB_bl, gList_lst, gList_tup, fn_app, List.map_cons, List.map_nil, List.cons_append, List.nil_append, List.append_nil, List.replicate, List.length_cons, List.length_nil, Nat.reduceSub, Nat.reduceAdd, sSeq_app, sSet_app, sRet_app, sIf_app, sNop_app, sRaise_app, e2_app, e1_app, eV_app, eC_app, eB_app, aC_app, aN_app, eTup_app, eLst_app, eCall0_app, eCall_app, eAnd_app, eOr_app, eNot_app, eIf_app, eChain_app, List.getElem?_cons_zero, List.getElem?_cons_succ, slotR, b2_ok, b1_ok, cons_ok, b_ok, set_ok, ret_ok, seq_nx, seq_rt, seq_exc, out_rt, out_nx, out_exc, List.set_cons_zero, List.set_cons_succ, R.go_ok, R.bind_ok, R.bindL_ok, RL.go_ok, sFor_app, iSeq_app, itOf_lst, itOf_tup, br_true, br_false, br_dec, brS_true, brS_false, brS_dec, truB, eTru_app, gAdd_int, gSub_int, gMul_int, gMod_pos, gFdiv_pos, gDivmod_pos, gShl_P, gShr_P, gAnd_int, gOr_int, gXor_int, gLt_int, gLe_int, gGt_int, gGe_int, gEq_int, gNe_int, gNeg_int, gLen_tup, gLen_lst, gMax_int, gMin_int, gAbs_int, gInt_int, gIs_non, gIsNot_non, eIsi2, isR_non_int, isR_non_bool, isR_non_str, isR_non_tuple, isR_non_list, isR_bl_int, isR_bl_bool, isR_bl_str, isR_bl_tuple, isR_bl_list, isR_int_int, isR_int_bool, isR_int_str, isR_int_tuple, isR_int_list, isR_str_int, isR_str_bool, isR_str_str, isR_str_tuple, isR_str_list, isR_tup_int, isR_tup_bool, isR_tup_str, isR_tup_tuple, isR_tup_list, isR_lst_int, isR_lst_bool, isR_lst_str, isR_lst_tuple, isR_lst_list, natlit, sTgt_app, gMany_eq, gMany_eqL, setMany_cons, setMany_nil, setMany_nil', ixt0, ixt1, ixt2, ixl0, ixl1, ixl2, ixl3, ixl4, ixl5, ixl6, ixl7, ixl8, ixl9, ixl10, ixl11, ixt3, ixt4, tupok, lstok, isNon_int, isNon_non, isNon_tup, isNon_lst, Bool.not_true, Bool.not_false, decide_true, decide_false, Bool.not_eq_true, decide_eq_true_eq, Bool.not_eq_eq_eq_not, Nat.reduceLeDiff, reduceIte, Int.reduceEq, Int.reduceLT, Int.reduceLE, Int.reduceAdd, Int.reduceSub, Int.reduceMul, Int.reduceNeg, Int.reduceMod, Int.reduceDiv, eLc_app, lcsize, lc_bind, lcL_nil, lcL_one, lcGo_f, lcGo_t, lcFin_ok, wipe_nil, wipe_cons, gNe_l0, gEq_l0, gNe_t2, gEq_t2, gNe_t3, gEq_t3, gEq_str, gNe_str, gEq_bl, gNe_bl, aApp_app, app2_ok, app2_exc, cons_exc1, cons_exc2, b_exc, b1_exc, b2_exc1, b2_exc2, br_exc, brS_exc, R.bind_exc, R.bindL_exc, RL.bind_exc, R.go_exc, RL.go_exc, ret_exc, set_exc, sTry_app, tryGo_nx, tryGo_rt, tryGo_exc, tryEnd_nx, tryEnd_rt, eIsx_app, isx_t, isx_f, isNon_exn, isNon_bl, isNon_str, sDrop_app, gInt_bl, sNew_app, new_ok, sApp_app, app_ok, sFrz_app, frz_own, frz_val, frz_none, eMeth_app, eSlB_app, eSlS_app, eSlN_app, sNewD_app, sPutD_app, eGetD_app, iRev_app, itRv_lst, itRv_tup, gRevL_lst, gVals_dct, gSorted_ints, gSum_ints, gMin3_int, keyP_str, keyP_int, optR_some, getR_some, lookK_hit, lookK_miss, get_own, get_val, gIxD_dct, put_own, putR_some, putD_new, frz_owd, bindI_ok, gSlL_lst, Bool.false_eq_true, and_self, and_true, true_and, sNewF_app, nf_ok, nf2_ok, eBor_go, bor_own, bor_val, plR_bl, plR_int, sNewLB_app, lb_own, sNewFB_app, fb_own, fb_ok, tryGo_excO, sRaiseO_app, eIsy_app, isy_t, isy_f, xf_hit, eT0_app, eT1_app, t0_ok, t1_ok, iStrS_app, sg_ok, tx_add, tx_len, tx_in, tx_notin, tx_eq, tx_ne, tx_slN, tx_slS, tx_slL, tx_sl1, t1_tx, t0_tx, tx_starts, tx_ends, tx_part, sg_tx, words_ne] <;> rfl)
theorem k21_told (w : Wy) {s d : Int} {o : Bool} (hs : s = 0 ∨ s = 1) (hd : d = 1 ∨ d = 0 ∨ d = -1) : m_L_as_told_0ce8 [.ins w.cls, .str w.str, .int s, .bl o, .int d] = .ok (.bl true) := by
  have t1 := isn_cls w
  obtain ⟨g, g1, g2⟩ := sp_goes_on w s d o
  obtain ⟨f, f1, f2⟩ := sp_ends w s
  have t2 := sp_L_goes_51bd w s o d hd
  have t3 := k21_ends w hs
  unfold m_L_as_told_0ce8 b_L_as_told_0ce8
  simp (disch := walk_at "nfd") only [gIsB_bl, gIsNotB_bl, gList_lst, gList_tup, fn_app, List.map_cons, List.map_nil, List.cons_append, List.nil_append, List.append_nil, List.replicate, List.length_cons, List.length_nil, Nat.reduceSub, Nat.reduceAdd, sSeq_app, sSet_app, sRet_app, sIf_app, sNop_app, sRaise_app, e2_app, e1_app, eV_app, eC_app, eB_app, aC_app, aN_app, eTup_app, eLst_app, eCall0_app, eCall_app, eAnd_app, eOr_app, eNot_app, eIf_app, eChain_app, List.getElem?_cons_zero, List.getElem?_cons_succ, slotR, b2_ok, b1_ok, cons_ok, b_ok, set_ok, ret_ok, seq_nx, seq_rt, seq_exc, out_rt, out_nx, out_exc, List.set_cons_zero, List.set_cons_succ, R.go_ok, R.bind_ok, R.bindL_ok, RL.go_ok, sFor_app, iSeq_app, itOf_lst, itOf_tup, br_true, br_false, br_dec, brS_true, brS_false, brS_dec, truB, eTru_app, gAdd_int, gSub_int, gMul_int, gMod_pos, gFdiv_pos, gDivmod_pos, gShl_P, gShr_P, gAnd_int, gOr_int, gXor_int, gLt_int, gLe_int, gGt_int, gGe_int, gEq_int, gNe_int, gNeg_int, gLen_tup, gLen_lst, gMax_int, gMin_int, gAbs_int, gInt_int, gIs_non, gIsNot_non, eIsi2, isR_non_int, isR_non_bool, isR_non_str, isR_non_tuple, isR_non_list, isR_bl_int, isR_bl_bool, isR_bl_str, isR_bl_tuple, isR_bl_list, isR_int_int, isR_int_bool, isR_int_str, isR_int_tuple, isR_int_list, isR_str_int, isR_str_bool, isR_str_str, isR_str_tuple, isR_str_list, isR_tup_int, isR_tup_bool, isR_tup_str, isR_tup_tuple, isR_tup_list, isR_lst_int, isR_lst_bool, isR_lst_str, isR_lst_tuple, isR_lst_list, natlit, sTgt_app, gMany_eq, gMany_eqL, setMany_cons, setMany_nil, setMany_nil', ixt0, ixt1, ixt2, ixl0, ixl1, ixl2, ixl3, ixl4, ixl5, ixl6, ixl7, ixl8, ixl9, ixl10, ixl11, ixt3, ixt4, tupok, lstok, isNon_int, isNon_non, isNon_tup, isNon_lst, Bool.not_true, Bool.not_false, decide_true, decide_false, Bool.not_eq_true, decide_eq_true_eq, Bool.not_eq_eq_eq_not, Nat.reduceLeDiff, reduceIte, Int.reduceEq, Int.reduceLT, Int.reduceLE, Int.reduceAdd, Int.reduceSub, Int.reduceMul, Int.reduceNeg, Int.reduceMod, Int.reduceDiv, eLc_app, lcsize, lc_bind, lcL_nil, lcL_one, lcGo_f, lcGo_t, lcFin_ok, wipe_nil, wipe_cons, gNe_l0, gEq_l0, gNe_t2, gEq_t2, gNe_t3, gEq_t3, gEq_str, gNe_str, gEq_bl, gNe_bl, aApp_app, app2_ok, app2_exc, cons_exc1, cons_exc2, b_exc, b1_exc, b2_exc1, b2_exc2, br_exc, brS_exc, R.bind_exc, R.bindL_exc, RL.bind_exc, R.go_exc, RL.go_exc, ret_exc, set_exc, sTry_app, tryGo_nx, tryGo_rt, tryGo_exc, tryEnd_nx, tryEnd_rt, eIsx_app, isx_t, isx_f, isNon_exn, isNon_bl, isNon_str, sDrop_app, gInt_bl, sNew_app, new_ok, sApp_app, app_ok, sFrz_app, frz_own, frz_val, frz_none, eMeth_app, eSlB_app, eSlS_app, eSlN_app, sNewD_app, sPutD_app, eGetD_app, iRev_app, itRv_lst, itRv_tup, gRevL_lst, gVals_dct, gSorted_ints, gSum_ints, gMin3_int, keyP_str, keyP_int, optR_some, getR_some, lookK_hit, lookK_miss, get_own, get_val, gIxD_dct, put_own, putR_some, putD_new, frz_owd, bindI_ok, gSlL_lst, Bool.false_eq_true, and_self, and_true, true_and, sNewF_app, nf_ok, nf2_ok, eBor_go, bor_own, bor_val, plR_bl, plR_int, sNewLB_app, lb_own, sNewFB_app, fb_own, fb_ok, tryGo_excO, sRaiseO_app, eIsy_app, isy_t, isy_f, xf_hit, eT0_app, eT1_app, t0_ok, t1_ok, iStrS_app, sg_ok, tx_add, tx_len, tx_in, tx_notin, tx_eq, tx_ne, tx_slN, tx_slS, tx_slL, tx_sl1, t1_tx, t0_tx, tx_starts, tx_ends, tx_part, sg_tx, t1, meth_ok g1, g2, meth_ok f1, f2, t2, t3]
def k21A : Str := "abcdefghijklmnopqrstuvwxyz"
def k21B : Str := " !\"#$&'()*+,-./0123456789:;<=>?@"
def k21C : Str := "ABCDEFGHIJKLMNOPQRSTUVWXYZ[\\]^_`{|}~\n\t"
theorem k21_made {ns : List Int} : ∃ t : List Nat, m_L_made_9a41 [.lst (ns.map .int), .lst [.str "even", .str "off", .str "in", .str "up", .str "down"]] = .ok (tx t) := by
  have c3 : m_L_cell_41e6 [.lst (ns.map .int), .int 3] = .ok (.int (ns.getD 3 0)) := sp_L_cellN (ns := ns) 3
  have c4 : m_L_cell_41e6 [.lst (ns.map .int), .int 4] = .ok (.int (ns.getD 4 0)) := sp_L_cellN (ns := ns) 4
  have c5 : m_L_cell_41e6 [.lst (ns.map .int), .int 5] = .ok (.int (ns.getD 5 0)) := sp_L_cellN (ns := ns) 5
  have c6 : m_L_cell_41e6 [.lst (ns.map .int), .int 6] = .ok (.int (ns.getD 6 0)) := sp_L_cellN (ns := ns) 6
  generalize ns.getD 3 0 = a3 at *
  generalize ns.getD 4 0 = a4 at *
  generalize ns.getD 5 0 = a5 at *
  generalize ns.getD 6 0 = a6 at *
  obtain ⟨w, hw⟩ := pick5 a3
  have hw : gIx (.lst [.str "even", .str "off", .str "in", .str "up", .str "down"]) (.int (a3 % 5)) = .ok (tx w.str.cps.toList) := by rw [hw, str_tx]
  have wl : w.str.cps.toList.length ≤ 10 := by cases w <;> decide +kernel
  generalize w.str.cps.toList = l at *
  have ln := tx_len (a := l) (by omega)
  have lA : PV.str "abcdefghijklmnopqrstuvwxyz" = tx k21A.cps.toList := str_tx k21A
  have lB : PV.str " !\"#$&'()*+,-./0123456789:;<=>?@" = tx k21B.cps.toList := str_tx k21B
  have lC : PV.str "ABCDEFGHIJKLMNOPQRSTUVWXYZ[\\]^_`{|}~\n\t" = tx k21C.cps.toList := str_tx k21C
  have nA : k21A.cps.toList.length = 26 := by decide +kernel
  have nB : k21B.cps.toList.length ≤ 40 := by decide +kernel
  have nC : k21C.cps.toList.length ≤ 40 := by decide +kernel
  generalize k21A.cps.toList = A at *
  generalize k21B.cps.toList = B at *
  generalize k21C.cps.toList = C at *
  have mA := tx_mul (a := A) (i := 3) (by decide) (by decide) (by omega)
  have rA := len_repL A (3 : Int).toNat
  have e3 : (3 : Int).toNat = 3 := rfl
  rw [e3] at mA rA
  generalize repL 3 A = A3 at *
  have lg : (A3 ++ B ++ C).length ≤ 200 := by rw [List.length_append, List.length_append]; omega
  have lg0 : 0 < (A3 ++ B ++ C).length := by rw [List.length_append, List.length_append]; omega
  have lnS := tx_len (a := A3 ++ B ++ C) (by omega)
  have q0 := Int.emod_nonneg a5 (show ((A3 ++ B ++ C).length : Int) ≠ 0 by omega)
  have q1 := Int.emod_lt_of_pos a5 (show 0 < ((A3 ++ B ++ C).length : Int) by omega)
  have gm5 := gMod_pos (i := a5) (j := ((A3 ++ B ++ C).length : Int)) (by omega)
  obtain ⟨x, _, hx⟩ := tx_at (l := A3 ++ B ++ C) (i := a5 % ((A3 ++ B ++ C).length : Int)) (by omega) q0 q1
  have p0 := Int.emod_nonneg a4 (show (l.length : Int) + 1 ≠ 0 by omega)
  have p1 := Int.emod_lt_of_pos a4 (show 0 < (l.length : Int) + 1 by omega)
  have gm4 := gMod_pos (i := a4) (j := (l.length : Int) + 1) (by omega)
  generalize a4 % ((l.length : Int) + 1) = q at *
  have L1 : (l.take q.toNat).length ≤ 1000 := by rw [List.length_take]; omega
  have L2 : (l.drop q.toNat).length ≤ 1000 := by rw [List.length_drop]; omega
  have L3 : (l.drop (q + 1).toNat).length ≤ 1000 := by rw [List.length_drop]; omega
  have adS : gAdd (tx (A3 ++ B)) (tx C) = .ok (tx (A3 ++ B ++ C)) := tx_add (by rw [List.length_append]; omega)
  generalize a5 % ((A3 ++ B ++ C).length : Int) = r at *
  generalize hS : A3 ++ B ++ C = S0 at *
  have h3 : a6 % 3 = 0 ∨ a6 % 3 = 1 ∨ a6 % 3 = 2 := by omega
  unfold m_L_made_9a41 b_L_made_9a41
  rcases h3 with h | h | h
  · exact ⟨_, by simp (disch := walk_at "nfd") only [gIsB_bl, gIsNotB_bl, gList_lst, gList_tup, fn_app, List.map_cons, List.map_nil, List.cons_append, List.nil_append, List.append_nil, List.replicate, List.length_cons, List.length_nil, Nat.reduceSub, Nat.reduceAdd, sSeq_app, sSet_app, sRet_app, sIf_app, sNop_app, sRaise_app, e2_app, e1_app, eV_app, eC_app, eB_app, aC_app, aN_app, eTup_app, eLst_app, eCall0_app, eCall_app, eAnd_app, eOr_app, eNot_app, eIf_app, eChain_app, List.getElem?_cons_zero, List.getElem?_cons_succ, slotR, b2_ok, b1_ok, cons_ok, b_ok, set_ok, ret_ok, seq_nx, seq_rt, seq_exc, out_rt, out_nx, out_exc, List.set_cons_zero, List.set_cons_succ, R.go_ok, R.bind_ok, R.bindL_ok, RL.go_ok, sFor_app, iSeq_app, itOf_lst, itOf_tup, br_true, br_false, br_dec, brS_true, brS_false, brS_dec, truB, eTru_app, gAdd_int, gSub_int, gMul_int, gMod_pos, gFdiv_pos, gDivmod_pos, gShl_P, gShr_P, gAnd_int, gOr_int, gXor_int, gLt_int, gLe_int, gGt_int, gGe_int, gEq_int, gNe_int, gNeg_int, gLen_tup, gLen_lst, gMax_int, gMin_int, gAbs_int, gInt_int, gIs_non, gIsNot_non, eIsi2, isR_non_int, isR_non_bool, isR_non_str, isR_non_tuple, isR_non_list, isR_bl_int, isR_bl_bool, isR_bl_str, isR_bl_tuple, isR_bl_list, isR_int_int, isR_int_bool, isR_int_str, isR_int_tuple, isR_int_list, isR_str_int, isR_str_bool, isR_str_str, isR_str_tuple, isR_str_list, isR_tup_int, isR_tup_bool, isR_tup_str, isR_tup_tuple, isR_tup_list, isR_lst_int, isR_lst_bool, isR_lst_str, isR_lst_tuple, isR_lst_list, natlit, sTgt_app, gMany_eq, gMany_eqL, setMany_cons, setMany_nil, setMany_nil', ixt0, ixt1, ixt2, ixl0, ixl1, ixl2, ixl3, ixl4, ixl5, ixl6, ixl7, ixl8, ixl9, ixl10, ixl11, ixt3, ixt4, tupok, lstok, isNon_int, isNon_non, isNon_tup, isNon_lst, Bool.not_true, Bool.not_false, decide_true, decide_false, Bool.not_eq_true, decide_eq_true_eq, Bool.not_eq_eq_eq_not, Nat.reduceLeDiff, reduceIte, Int.reduceEq, Int.reduceLT, Int.reduceLE, Int.reduceAdd, Int.reduceSub, Int.reduceMul, Int.reduceNeg, Int.reduceMod, Int.reduceDiv, eLc_app, lcsize, lc_bind, lcL_nil, lcL_one, lcGo_f, lcGo_t, lcFin_ok, wipe_nil, wipe_cons, gNe_l0, gEq_l0, gNe_t2, gEq_t2, gNe_t3, gEq_t3, gEq_str, gNe_str, gEq_bl, gNe_bl, aApp_app, app2_ok, app2_exc, cons_exc1, cons_exc2, b_exc, b1_exc, b2_exc1, b2_exc2, br_exc, brS_exc, R.bind_exc, R.bindL_exc, RL.bind_exc, R.go_exc, RL.go_exc, ret_exc, set_exc, sTry_app, tryGo_nx, tryGo_rt, tryGo_exc, tryEnd_nx, tryEnd_rt, eIsx_app, isx_t, isx_f, isNon_exn, isNon_bl, isNon_str, sDrop_app, gInt_bl, sNew_app, new_ok, sApp_app, app_ok, sFrz_app, frz_own, frz_val, frz_none, eMeth_app, eSlB_app, eSlS_app, eSlN_app, sNewD_app, sPutD_app, eGetD_app, iRev_app, itRv_lst, itRv_tup, gRevL_lst, gVals_dct, gSorted_ints, gSum_ints, gMin3_int, keyP_str, keyP_int, optR_some, getR_some, lookK_hit, lookK_miss, get_own, get_val, gIxD_dct, put_own, putR_some, putD_new, frz_owd, bindI_ok, gSlL_lst, Bool.false_eq_true, and_self, and_true, true_and, sNewF_app, nf_ok, nf2_ok, eBor_go, bor_own, bor_val, plR_bl, plR_int, sNewLB_app, lb_own, sNewFB_app, fb_own, fb_ok, tryGo_excO, sRaiseO_app, eIsy_app, isy_t, isy_f, xf_hit, eT0_app, eT1_app, t0_ok, t1_ok, iStrS_app, sg_ok, tx_add, tx_len, tx_in, tx_notin, tx_eq, tx_ne, tx_slN, tx_slS, tx_slL, tx_sl1, t1_tx, t0_tx, tx_starts, tx_ends, tx_part, sg_tx, c3, hw, c4, ln, gm4, lA, mA, lB, lC, adS, c5, lnS, gm5, hx, c6, h] <;> rfl⟩
  · exact ⟨_, by simp (disch := walk_at "nfd") only [gIsB_bl, gIsNotB_bl, gList_lst, gList_tup, fn_app, List.map_cons, List.map_nil, List.cons_append, List.nil_append, List.append_nil, List.replicate, List.length_cons, List.length_nil, Nat.reduceSub, Nat.reduceAdd, sSeq_app, sSet_app, sRet_app, sIf_app, sNop_app, sRaise_app, e2_app, e1_app, eV_app, eC_app, eB_app, aC_app, aN_app, eTup_app, eLst_app, eCall0_app, eCall_app, eAnd_app, eOr_app, eNot_app, eIf_app, eChain_app, List.getElem?_cons_zero, List.getElem?_cons_succ, slotR, b2_ok, b1_ok, cons_ok, b_ok, set_ok, ret_ok, seq_nx, seq_rt, seq_exc, out_rt, out_nx, out_exc, List.set_cons_zero, List.set_cons_succ, R.go_ok, R.bind_ok, R.bindL_ok, RL.go_ok, sFor_app, iSeq_app, itOf_lst, itOf_tup, br_true, br_false, br_dec, brS_true, brS_false, brS_dec, truB, eTru_app, gAdd_int, gSub_int, gMul_int, gMod_pos, gFdiv_pos, gDivmod_pos, gShl_P, gShr_P, gAnd_int, gOr_int, gXor_int, gLt_int, gLe_int, gGt_int, gGe_int, gEq_int, gNe_int, gNeg_int, gLen_tup, gLen_lst, gMax_int, gMin_int, gAbs_int, gInt_int, gIs_non, gIsNot_non, eIsi2, isR_non_int, isR_non_bool, isR_non_str, isR_non_tuple, isR_non_list, isR_bl_int, isR_bl_bool, isR_bl_str, isR_bl_tuple, isR_bl_list, isR_int_int, isR_int_bool, isR_int_str, isR_int_tuple, isR_int_list, isR_str_int, isR_str_bool, isR_str_str, isR_str_tuple, isR_str_list, isR_tup_int, isR_tup_bool, isR_tup_str, isR_tup_tuple, isR_tup_list, isR_lst_int, isR_lst_bool, isR_lst_str, isR_lst_tuple, isR_lst_list, natlit, sTgt_app, gMany_eq, gMany_eqL, setMany_cons, setMany_nil, setMany_nil', ixt0, ixt1, ixt2, ixl0, ixl1, ixl2, ixl3, ixl4, ixl5, ixl6, ixl7, ixl8, ixl9, ixl10, ixl11, ixt3, ixt4, tupok, lstok, isNon_int, isNon_non, isNon_tup, isNon_lst, Bool.not_true, Bool.not_false, decide_true, decide_false, Bool.not_eq_true, decide_eq_true_eq, Bool.not_eq_eq_eq_not, Nat.reduceLeDiff, reduceIte, Int.reduceEq, Int.reduceLT, Int.reduceLE, Int.reduceAdd, Int.reduceSub, Int.reduceMul, Int.reduceNeg, Int.reduceMod, Int.reduceDiv, eLc_app, lcsize, lc_bind, lcL_nil, lcL_one, lcGo_f, lcGo_t, lcFin_ok, wipe_nil, wipe_cons, gNe_l0, gEq_l0, gNe_t2, gEq_t2, gNe_t3, gEq_t3, gEq_str, gNe_str, gEq_bl, gNe_bl, aApp_app, app2_ok, app2_exc, cons_exc1, cons_exc2, b_exc, b1_exc, b2_exc1, b2_exc2, br_exc, brS_exc, R.bind_exc, R.bindL_exc, RL.bind_exc, R.go_exc, RL.go_exc, ret_exc, set_exc, sTry_app, tryGo_nx, tryGo_rt, tryGo_exc, tryEnd_nx, tryEnd_rt, eIsx_app, isx_t, isx_f, isNon_exn, isNon_bl, isNon_str, sDrop_app, gInt_bl, sNew_app, new_ok, sApp_app, app_ok, sFrz_app, frz_own, frz_val, frz_none, eMeth_app, eSlB_app, eSlS_app, eSlN_app, sNewD_app, sPutD_app, eGetD_app, iRev_app, itRv_lst, itRv_tup, gRevL_lst, gVals_dct, gSorted_ints, gSum_ints, gMin3_int, keyP_str, keyP_int, optR_some, getR_some, lookK_hit, lookK_miss, get_own, get_val, gIxD_dct, put_own, putR_some, putD_new, frz_owd, bindI_ok, gSlL_lst, Bool.false_eq_true, and_self, and_true, true_and, sNewF_app, nf_ok, nf2_ok, eBor_go, bor_own, bor_val, plR_bl, plR_int, sNewLB_app, lb_own, sNewFB_app, fb_own, fb_ok, tryGo_excO, sRaiseO_app, eIsy_app, isy_t, isy_f, xf_hit, eT0_app, eT1_app, t0_ok, t1_ok, iStrS_app, sg_ok, tx_add, tx_len, tx_in, tx_notin, tx_eq, tx_ne, tx_slN, tx_slS, tx_slL, tx_sl1, t1_tx, t0_tx, tx_starts, tx_ends, tx_part, sg_tx, c3, hw, c4, ln, gm4, lA, mA, lB, lC, adS, c5, lnS, gm5, hx, c6, h] <;> rfl⟩
  · exact ⟨_, by simp (disch := walk_at "nfd") only [gIsB_bl, gIsNotB_bl, gList_lst, gList_tup, fn_app, List.map_cons, List.map_nil, List.cons_append, List.nil_append, List.append_nil, List.replicate, List.length_cons, List.length_nil, Nat.reduceSub, Nat.reduceAdd, sSeq_app, sSet_app, sRet_app, sIf_app, sNop_app, sRaise_app, e2_app, e1_app, eV_app, eC_app, eB_app, aC_app, aN_app, eTup_app, eLst_app, eCall0_app, eCall_app, eAnd_app, eOr_app, eNot_app, eIf_app, eChain_app, List.getElem?_cons_zero, List.getElem?_cons_succ, slotR, b2_ok, b1_ok, cons_ok, b_ok, set_ok, ret_ok, seq_nx, seq_rt, seq_exc, out_rt, out_nx, out_exc, List.set_cons_zero, List.set_cons_succ, R.go_ok, R.bind_ok, R.bindL_ok, RL.go_ok, sFor_app, iSeq_app, itOf_lst, itOf_tup, br_true, br_false, br_dec, brS_true, brS_false, brS_dec, truB, eTru_app, gAdd_int, gSub_int, gMul_int, gMod_pos, gFdiv_pos, gDivmod_pos, gShl_P, gShr_P, gAnd_int, gOr_int, gXor_int, gLt_int, gLe_int, gGt_int, gGe_int, gEq_int, gNe_int, gNeg_int, gLen_tup, gLen_lst, gMax_int, gMin_int, gAbs_int, gInt_int, gIs_non, gIsNot_non, eIsi2, isR_non_int, isR_non_bool, isR_non_str, isR_non_tuple, isR_non_list, isR_bl_int, isR_bl_bool, isR_bl_str, isR_bl_tuple, isR_bl_list, isR_int_int, isR_int_bool, isR_int_str, isR_int_tuple, isR_int_list, isR_str_int, isR_str_bool, isR_str_str, isR_str_tuple, isR_str_list, isR_tup_int, isR_tup_bool, isR_tup_str, isR_tup_tuple, isR_tup_list, isR_lst_int, isR_lst_bool, isR_lst_str, isR_lst_tuple, isR_lst_list, natlit, sTgt_app, gMany_eq, gMany_eqL, setMany_cons, setMany_nil, setMany_nil', ixt0, ixt1, ixt2, ixl0, ixl1, ixl2, ixl3, ixl4, ixl5, ixl6, ixl7, ixl8, ixl9, ixl10, ixl11, ixt3, ixt4, tupok, lstok, isNon_int, isNon_non, isNon_tup, isNon_lst, Bool.not_true, Bool.not_false, decide_true, decide_false, Bool.not_eq_true, decide_eq_true_eq, Bool.not_eq_eq_eq_not, Nat.reduceLeDiff, reduceIte, Int.reduceEq, Int.reduceLT, Int.reduceLE, Int.reduceAdd, Int.reduceSub, Int.reduceMul, Int.reduceNeg, Int.reduceMod, Int.reduceDiv, eLc_app, lcsize, lc_bind, lcL_nil, lcL_one, lcGo_f, lcGo_t, lcFin_ok, wipe_nil, wipe_cons, gNe_l0, gEq_l0, gNe_t2, gEq_t2, gNe_t3, gEq_t3, gEq_str, gNe_str, gEq_bl, gNe_bl, aApp_app, app2_ok, app2_exc, cons_exc1, cons_exc2, b_exc, b1_exc, b2_exc1, b2_exc2, br_exc, brS_exc, R.bind_exc, R.bindL_exc, RL.bind_exc, R.go_exc, RL.go_exc, ret_exc, set_exc, sTry_app, tryGo_nx, tryGo_rt, tryGo_exc, tryEnd_nx, tryEnd_rt, eIsx_app, isx_t, isx_f, isNon_exn, isNon_bl, isNon_str, sDrop_app, gInt_bl, sNew_app, new_ok, sApp_app, app_ok, sFrz_app, frz_own, frz_val, frz_none, eMeth_app, eSlB_app, eSlS_app, eSlN_app, sNewD_app, sPutD_app, eGetD_app, iRev_app, itRv_lst, itRv_tup, gRevL_lst, gVals_dct, gSorted_ints, gSum_ints, gMin3_int, keyP_str, keyP_int, optR_some, getR_some, lookK_hit, lookK_miss, get_own, get_val, gIxD_dct, put_own, putR_some, putD_new, frz_owd, bindI_ok, gSlL_lst, Bool.false_eq_true, and_self, and_true, true_and, sNewF_app, nf_ok, nf2_ok, eBor_go, bor_own, bor_val, plR_bl, plR_int, sNewLB_app, lb_own, sNewFB_app, fb_own, fb_ok, tryGo_excO, sRaiseO_app, eIsy_app, isy_t, isy_f, xf_hit, eT0_app, eT1_app, t0_ok, t1_ok, iStrS_app, sg_ok, tx_add, tx_len, tx_in, tx_notin, tx_eq, tx_ne, tx_slN, tx_slS, tx_slL, tx_sl1, t1_tx, t0_tx, tx_starts, tx_ends, tx_part, sg_tx, c3, hw, c4, ln, gm4, lA, mA, lB, lC, adS, c5, lnS, gm5, hx, c6, h] <;> rfl⟩
def k21W : List Str := ["even", "off", "in", "up", "down"]
theorem any_eq (t : Str) : ∀ l : List Str, l.foldr (fun x b => x == t || b) false = decide (t ∈ l)
  | [] => rfl
  | x :: l => by
    rw [List.foldr_cons, any_eq t l, Bool.eq_iff_iff, Bool.or_eq_true, beq_iff_eq, decide_eq_true_eq, decide_eq_true_eq, List.mem_cons]
    constructor
    · rintro (h | h)
      · exact .inl h.symm
      · exact .inr h
    · rintro (h | h)
      · exact .inl h.symm
      · exact .inr h
theorem k21_notin {t : Str} : gNotInSeq (.str t) (.lst [.str "even", .str "off", .str "in", .str "up", .str "down"]) = .ok (.bl (!decide (t ∈ k21W))) := by
  have e : gNotInSeq (.str t) (.lst [.str "even", .str "off", .str "in", .str "up", .str "down"]) = .ok (.bl (!(k21W.foldr (fun x b => x == t || b) false))) := rfl
  rw [e, any_eq]
theorem k21_refused {p : PV} (h : m_way_of [p] = .exc ⟨"NoWay", none⟩) : m_L_refused_3790 [p] = .ok (.bl true) := by
  unfold m_L_refused_3790 b_L_refused_3790
  simp (disch := walk_at "nfd") only [gIsB_bl, gIsNotB_bl, gList_lst, gList_tup, fn_app, List.map_cons, List.map_nil, List.cons_append, List.nil_append, List.append_nil, List.replicate, List.length_cons, List.length_nil, Nat.reduceSub, Nat.reduceAdd, sSeq_app, sSet_app, sRet_app, sIf_app, sNop_app, sRaise_app, e2_app, e1_app, eV_app, eC_app, eB_app, aC_app, aN_app, eTup_app, eLst_app, eCall0_app, eCall_app, eAnd_app, eOr_app, eNot_app, eIf_app, eChain_app, List.getElem?_cons_zero, List.getElem?_cons_succ, slotR, b2_ok, b1_ok, cons_ok, b_ok, set_ok, ret_ok, seq_nx, seq_rt, seq_exc, out_rt, out_nx, out_exc, List.set_cons_zero, List.set_cons_succ, R.go_ok, R.bind_ok, R.bindL_ok, RL.go_ok, sFor_app, iSeq_app, itOf_lst, itOf_tup, br_true, br_false, br_dec, brS_true, brS_false, brS_dec, truB, eTru_app, gAdd_int, gSub_int, gMul_int, gMod_pos, gFdiv_pos, gDivmod_pos, gShl_P, gShr_P, gAnd_int, gOr_int, gXor_int, gLt_int, gLe_int, gGt_int, gGe_int, gEq_int, gNe_int, gNeg_int, gLen_tup, gLen_lst, gMax_int, gMin_int, gAbs_int, gInt_int, gIs_non, gIsNot_non, eIsi2, isR_non_int, isR_non_bool, isR_non_str, isR_non_tuple, isR_non_list, isR_bl_int, isR_bl_bool, isR_bl_str, isR_bl_tuple, isR_bl_list, isR_int_int, isR_int_bool, isR_int_str, isR_int_tuple, isR_int_list, isR_str_int, isR_str_bool, isR_str_str, isR_str_tuple, isR_str_list, isR_tup_int, isR_tup_bool, isR_tup_str, isR_tup_tuple, isR_tup_list, isR_lst_int, isR_lst_bool, isR_lst_str, isR_lst_tuple, isR_lst_list, natlit, sTgt_app, gMany_eq, gMany_eqL, setMany_cons, setMany_nil, setMany_nil', ixt0, ixt1, ixt2, ixl0, ixl1, ixl2, ixl3, ixl4, ixl5, ixl6, ixl7, ixl8, ixl9, ixl10, ixl11, ixt3, ixt4, tupok, lstok, isNon_int, isNon_non, isNon_tup, isNon_lst, Bool.not_true, Bool.not_false, decide_true, decide_false, Bool.not_eq_true, decide_eq_true_eq, Bool.not_eq_eq_eq_not, Nat.reduceLeDiff, reduceIte, Int.reduceEq, Int.reduceLT, Int.reduceLE, Int.reduceAdd, Int.reduceSub, Int.reduceMul, Int.reduceNeg, Int.reduceMod, Int.reduceDiv, eLc_app, lcsize, lc_bind, lcL_nil, lcL_one, lcGo_f, lcGo_t, lcFin_ok, wipe_nil, wipe_cons, gNe_l0, gEq_l0, gNe_t2, gEq_t2, gNe_t3, gEq_t3, gEq_str, gNe_str, gEq_bl, gNe_bl, aApp_app, app2_ok, app2_exc, cons_exc1, cons_exc2, b_exc, b1_exc, b2_exc1, b2_exc2, br_exc, brS_exc, R.bind_exc, R.bindL_exc, RL.bind_exc, R.go_exc, RL.go_exc, ret_exc, set_exc, sTry_app, tryGo_nx, tryGo_rt, tryGo_exc, tryEnd_nx, tryEnd_rt, eIsx_app, isx_t, isx_f, isNon_exn, isNon_bl, isNon_str, sDrop_app, gInt_bl, sNew_app, new_ok, sApp_app, app_ok, sFrz_app, frz_own, frz_val, frz_none, eMeth_app, eSlB_app, eSlS_app, eSlN_app, sNewD_app, sPutD_app, eGetD_app, iRev_app, itRv_lst, itRv_tup, gRevL_lst, gVals_dct, gSorted_ints, gSum_ints, gMin3_int, keyP_str, keyP_int, optR_some, getR_some, lookK_hit, lookK_miss, get_own, get_val, gIxD_dct, put_own, putR_some, putD_new, frz_owd, bindI_ok, gSlL_lst, Bool.false_eq_true, and_self, and_true, true_and, sNewF_app, nf_ok, nf2_ok, eBor_go, bor_own, bor_val, plR_bl, plR_int, sNewLB_app, lb_own, sNewFB_app, fb_own, fb_ok, tryGo_excO, sRaiseO_app, eIsy_app, isy_t, isy_f, xf_hit, eT0_app, eT1_app, t0_ok, t1_ok, iStrS_app, sg_ok, tx_add, tx_len, tx_in, tx_notin, tx_eq, tx_ne, tx_slN, tx_slS, tx_slL, tx_sl1, t1_tx, t0_tx, tx_starts, tx_ends, tx_part, sg_tx, h]
theorem way_not {t : Str} (h : t ∉ k21W) : m_way_of [.str t] = .exc ⟨"NoWay", none⟩ := by
  have h1 : (t = "even") = False := eq_false fun z => h (by rw [z]; exact List.mem_cons_self)
  have h2 : (t = "off") = False := eq_false fun z => h (by rw [z]; unfold k21W; simp)
  have h3 : (t = "in") = False := eq_false fun z => h (by rw [z]; unfold k21W; simp)
  have h4 : (t = "up") = False := eq_false fun z => h (by rw [z]; unfold k21W; simp)
  have h5 : (t = "down") = False := eq_false fun z => h (by rw [z]; unfold k21W; simp)
  unfold m_way_of b_way_of
  simp (disch := walk_at "nfd") only [gIsB_bl, gIsNotB_bl, gList_lst, gList_tup, fn_app, List.map_cons, List.map_nil, List.cons_append, List.nil_append, List.append_nil, List.replicate, List.length_cons, List.length_nil, Nat.reduceSub, Nat.reduceAdd, sSeq_app, sSet_app, sRet_app, sIf_app, sNop_app, sRaise_app, e2_app, e1_app, eV_app, eC_app, eB_app, aC_app, aN_app, eTup_app, eLst_app, eCall0_app, eCall_app, eAnd_app, eOr_app, eNot_app, eIf_app, eChain_app, List.getElem?_cons_zero, List.getElem?_cons_succ, slotR, b2_ok, b1_ok, cons_ok, b_ok, set_ok, ret_ok, seq_nx, seq_rt, seq_exc, out_rt, out_nx, out_exc, List.set_cons_zero, List.set_cons_succ, R.go_ok, R.bind_ok, R.bindL_ok, RL.go_ok, sFor_app, iSeq_app, itOf_lst, itOf_tup, br_true, br_false, br_dec, brS_true, brS_false, brS_dec, truB, eTru_app, gAdd_int, gSub_int, gMul_int, gMod_pos, gFdiv_pos, gDivmod_pos, gShl_P, gShr_P, gAnd_int, gOr_int, gXor_int, gLt_int, gLe_int, gGt_int, gGe_int, gEq_int, gNe_int, gNeg_int, gLen_tup, gLen_lst, gMax_int, gMin_int, gAbs_int, gInt_int, gIs_non, gIsNot_non, eIsi2, isR_non_int, isR_non_bool, isR_non_str, isR_non_tuple, isR_non_list, isR_bl_int, isR_bl_bool, isR_bl_str, isR_bl_tuple, isR_bl_list, isR_int_int, isR_int_bool, isR_int_str, isR_int_tuple, isR_int_list, isR_str_int, isR_str_bool, isR_str_str, isR_str_tuple, isR_str_list, isR_tup_int, isR_tup_bool, isR_tup_str, isR_tup_tuple, isR_tup_list, isR_lst_int, isR_lst_bool, isR_lst_str, isR_lst_tuple, isR_lst_list, natlit, sTgt_app, gMany_eq, gMany_eqL, setMany_cons, setMany_nil, setMany_nil', ixt0, ixt1, ixt2, ixl0, ixl1, ixl2, ixl3, ixl4, ixl5, ixl6, ixl7, ixl8, ixl9, ixl10, ixl11, ixt3, ixt4, tupok, lstok, isNon_int, isNon_non, isNon_tup, isNon_lst, Bool.not_true, Bool.not_false, decide_true, decide_false, Bool.not_eq_true, decide_eq_true_eq, Bool.not_eq_eq_eq_not, Nat.reduceLeDiff, reduceIte, Int.reduceEq, Int.reduceLT, Int.reduceLE, Int.reduceAdd, Int.reduceSub, Int.reduceMul, Int.reduceNeg, Int.reduceMod, Int.reduceDiv, eLc_app, lcsize, lc_bind, lcL_nil, lcL_one, lcGo_f, lcGo_t, lcFin_ok, wipe_nil, wipe_cons, gNe_l0, gEq_l0, gNe_t2, gEq_t2, gNe_t3, gEq_t3, gEq_str, gNe_str, gEq_bl, gNe_bl, aApp_app, app2_ok, app2_exc, cons_exc1, cons_exc2, b_exc, b1_exc, b2_exc1, b2_exc2, br_exc, brS_exc, R.bind_exc, R.bindL_exc, RL.bind_exc, R.go_exc, RL.go_exc, ret_exc, set_exc, sTry_app, tryGo_nx, tryGo_rt, tryGo_exc, tryEnd_nx, tryEnd_rt, eIsx_app, isx_t, isx_f, isNon_exn, isNon_bl, isNon_str, sDrop_app, gInt_bl, sNew_app, new_ok, sApp_app, app_ok, sFrz_app, frz_own, frz_val, frz_none, eMeth_app, eSlB_app, eSlS_app, eSlN_app, sNewD_app, sPutD_app, eGetD_app, iRev_app, itRv_lst, itRv_tup, gRevL_lst, gVals_dct, gSorted_ints, gSum_ints, gMin3_int, keyP_str, keyP_int, optR_some, getR_some, lookK_hit, lookK_miss, get_own, get_val, gIxD_dct, put_own, putR_some, putD_new, frz_owd, bindI_ok, gSlL_lst, Bool.false_eq_true, and_self, and_true, true_and, sNewF_app, nf_ok, nf2_ok, eBor_go, bor_own, bor_val, plR_bl, plR_int, sNewLB_app, lb_own, sNewFB_app, fb_own, fb_ok, tryGo_excO, sRaiseO_app, eIsy_app, isy_t, isy_f, xf_hit, eT0_app, eT1_app, t0_ok, t1_ok, iStrS_app, sg_ok, tx_add, tx_len, tx_in, tx_notin, tx_eq, tx_ne, tx_slN, tx_slS, tx_slL, tx_sl1, t1_tx, t0_tx, tx_starts, tx_ends, tx_part, sg_tx, h1, h2, h3, h4, h5]
/-- a thing that is alike to no word -/
def Odd21 (p : PV) : Prop := eqQ p (.str "even") = some false ∧ eqQ p (.str "off") = some false ∧ eqQ p (.str "in") = some false ∧ eqQ p (.str "up") = some false ∧ eqQ p (.str "down") = some false
theorem way_odd {p : PV} (h : Odd21 p) : m_way_of [p] = .exc ⟨"NoWay", none⟩ := by
  obtain ⟨h1, h2, h3, h4, h5⟩ := h
  have g : ∀ x : Str, eqQ p (.str x) = some false → gEq p (.str x) = .ok (.bl false) := fun x hx => by unfold gEq; rw [hx]
  have g1 := g _ h1
  have g2 := g _ h2
  have g3 := g _ h3
  have g4 := g _ h4
  have g5 := g _ h5
  unfold m_way_of b_way_of
  simp (disch := walk_at "nfd") only [gIsB_bl, gIsNotB_bl, gList_lst, gList_tup, fn_app, List.map_cons, List.map_nil, List.cons_append, List.nil_append, List.append_nil, List.replicate, List.length_cons, List.length_nil, Nat.reduceSub, Nat.reduceAdd, sSeq_app, sSet_app, sRet_app, sIf_app, sNop_app, sRaise_app, e2_app, e1_app, eV_app, eC_app, eB_app, aC_app, aN_app, eTup_app, eLst_app, eCall0_app, eCall_app, eAnd_app, eOr_app, eNot_app, eIf_app, eChain_app, List.getElem?_cons_zero, List.getElem?_cons_succ, slotR, b2_ok, b1_ok, cons_ok, b_ok, set_ok, ret_ok, seq_nx, seq_rt, seq_exc, out_rt, out_nx, out_exc, List.set_cons_zero, List.set_cons_succ, R.go_ok, R.bind_ok, R.bindL_ok, RL.go_ok, sFor_app, iSeq_app, itOf_lst, itOf_tup, br_true, br_false, br_dec, brS_true, brS_false, brS_dec, truB, eTru_app, gAdd_int, gSub_int, gMul_int, gMod_pos, gFdiv_pos, gDivmod_pos, gShl_P, gShr_P, gAnd_int, gOr_int, gXor_int, gLt_int, gLe_int, gGt_int, gGe_int, gEq_int, gNe_int, gNeg_int, gLen_tup, gLen_lst, gMax_int, gMin_int, gAbs_int, gInt_int, gIs_non, gIsNot_non, eIsi2, isR_non_int, isR_non_bool, isR_non_str, isR_non_tuple, isR_non_list, isR_bl_int, isR_bl_bool, isR_bl_str, isR_bl_tuple, isR_bl_list, isR_int_int, isR_int_bool, isR_int_str, isR_int_tuple, isR_int_list, isR_str_int, isR_str_bool, isR_str_str, isR_str_tuple, isR_str_list, isR_tup_int, isR_tup_bool, isR_tup_str, isR_tup_tuple, isR_tup_list, isR_lst_int, isR_lst_bool, isR_lst_str, isR_lst_tuple, isR_lst_list, natlit, sTgt_app, gMany_eq, gMany_eqL, setMany_cons, setMany_nil, setMany_nil', ixt0, ixt1, ixt2, ixl0, ixl1, ixl2, ixl3, ixl4, ixl5, ixl6, ixl7, ixl8, ixl9, ixl10, ixl11, ixt3, ixt4, tupok, lstok, isNon_int, isNon_non, isNon_tup, isNon_lst, Bool.not_true, Bool.not_false, decide_true, decide_false, Bool.not_eq_true, decide_eq_true_eq, Bool.not_eq_eq_eq_not, Nat.reduceLeDiff, reduceIte, Int.reduceEq, Int.reduceLT, Int.reduceLE, Int.reduceAdd, Int.reduceSub, Int.reduceMul, Int.reduceNeg, Int.reduceMod, Int.reduceDiv, eLc_app, lcsize, lc_bind, lcL_nil, lcL_one, lcGo_f, lcGo_t, lcFin_ok, wipe_nil, wipe_cons, gNe_l0, gEq_l0, gNe_t2, gEq_t2, gNe_t3, gEq_t3, gEq_str, gNe_str, gEq_bl, gNe_bl, aApp_app, app2_ok, app2_exc, cons_exc1, cons_exc2, b_exc, b1_exc, b2_exc1, b2_exc2, br_exc, brS_exc, R.bind_exc, R.bindL_exc, RL.bind_exc, R.go_exc, RL.go_exc, ret_exc, set_exc, sTry_app, tryGo_nx, tryGo_rt, tryGo_exc, tryEnd_nx, tryEnd_rt, eIsx_app, isx_t, isx_f, isNon_exn, isNon_bl, isNon_str, sDrop_app, gInt_bl, sNew_app, new_ok, sApp_app, app_ok, sFrz_app, frz_own, frz_val, frz_none, eMeth_app, eSlB_app, eSlS_app, eSlN_app, sNewD_app, sPutD_app, eGetD_app, iRev_app, itRv_lst, itRv_tup, gRevL_lst, gVals_dct, gSorted_ints, gSum_ints, gMin3_int, keyP_str, keyP_int, optR_some, getR_some, lookK_hit, lookK_miss, get_own, get_val, gIxD_dct, put_own, putR_some, putD_new, frz_owd, bindI_ok, gSlL_lst, Bool.false_eq_true, and_self, and_true, true_and, sNewF_app, nf_ok, nf2_ok, eBor_go, bor_own, bor_val, plR_bl, plR_int, sNewLB_app, lb_own, sNewFB_app, fb_own, fb_ok, tryGo_excO, sRaiseO_app, eIsy_app, isy_t, isy_f, xf_hit, eT0_app, eT1_app, t0_ok, t1_ok, iStrS_app, sg_ok, tx_add, tx_len, tx_in, tx_notin, tx_eq, tx_ne, tx_slN, tx_slS, tx_slL, tx_sl1, t1_tx, t0_tx, tx_starts, tx_ends, tx_part, sg_tx, g1, g2, g3, g4, g5]
theorem k21_thing (c : Int) : ∃ p, gIx (.lst [.non, .int 0, .int 1, .bl true, .bl false, .lst [.str "even"], .tup [.str "up"], .dct [] []]) (.int (c % 8)) = .ok p ∧ Odd21 p := by
  have h : c % 8 = 0 ∨ c % 8 = 1 ∨ c % 8 = 2 ∨ c % 8 = 3 ∨ c % 8 = 4 ∨ c % 8 = 5 ∨ c % 8 = 6 ∨ c % 8 = 7 := by omega
  rcases h with h | h | h | h | h | h | h | h <;> rw [h]
  · exact ⟨_, ixl0, by unfold Odd21; decide +kernel⟩
  · exact ⟨_, ixl1, by unfold Odd21; decide +kernel⟩
  · exact ⟨_, ixl2, by unfold Odd21; decide +kernel⟩
  · exact ⟨_, ixl3, by unfold Odd21; decide +kernel⟩
  · exact ⟨_, ixl4, by unfold Odd21; decide +kernel⟩
  · exact ⟨_, ixl5, by unfold Odd21; decide +kernel⟩
  · exact ⟨_, ixl6, by unfold Odd21; decide +kernel⟩
  · exact ⟨_, ixl7, by unfold Odd21; decide +kernel⟩
theorem k21_kinds : m_L_kinds_28cb [] = .ok (.bl true) := by
  have e1 := sp_way_of .even
  have e2 := sp_way_of .off
  have e3 := sp_way_of .inn
  have e4 := sp_way_of .up
  have e5 := sp_way_of .down
  simp only [show Wy.even.str = ("even" : Str) from rfl, show Wy.off.str = ("off" : Str) from rfl, show Wy.inn.str = ("in" : Str) from rfl, show Wy.up.str = ("up" : Str) from rfl, show Wy.down.str = ("down" : Str) from rfl, show Wy.even.cls = ("Even" : Str) from rfl, show Wy.off.cls = ("Off" : Str) from rfl, show Wy.inn.cls = ("In" : Str) from rfl, show Wy.up.cls = ("Up" : Str) from rfl, show Wy.down.cls = ("Down" : Str) from rfl] at e1 e2 e3 e4 e5
  have i1 : isnR [("Even", true), ("Off", false), ("In", false), ("Up", false), ("Down", false)] (.ins "Even") = .ok (.bl true) := rfl
  have i2 : isnR [("Even", false), ("Off", true), ("In", false), ("Up", false), ("Down", false)] (.ins "Off") = .ok (.bl true) := rfl
  have i3 : isnR [("Even", false), ("Off", false), ("In", true), ("Up", false), ("Down", false)] (.ins "In") = .ok (.bl true) := rfl
  have i4 : isnR [("Even", false), ("Off", false), ("In", false), ("Up", true), ("Down", false)] (.ins "Up") = .ok (.bl true) := rfl
  have i5 : isnR [("Even", false), ("Off", false), ("In", false), ("Up", false), ("Down", true)] (.ins "Down") = .ok (.bl true) := rfl
  unfold m_L_kinds_28cb b_L_kinds_28cb
  simp (disch := walk_at "nfd") only [gIsB_bl, gIsNotB_bl, gList_lst, gList_tup, fn_app, List.map_cons, List.map_nil, List.cons_append, List.nil_append, List.append_nil, List.replicate, List.length_cons, List.length_nil, Nat.reduceSub, Nat.reduceAdd, sSeq_app, sSet_app, sRet_app, sIf_app, sNop_app, sRaise_app, e2_app, e1_app, eV_app, eC_app, eB_app, aC_app, aN_app, eTup_app, eLst_app, eCall0_app, eCall_app, eAnd_app, eOr_app, eNot_app, eIf_app, eChain_app, List.getElem?_cons_zero, List.getElem?_cons_succ, slotR, b2_ok, b1_ok, cons_ok, b_ok, set_ok, ret_ok, seq_nx, seq_rt, seq_exc, out_rt, out_nx, out_exc, List.set_cons_zero, List.set_cons_succ, R.go_ok, R.bind_ok, R.bindL_ok, RL.go_ok, sFor_app, iSeq_app, itOf_lst, itOf_tup, br_true, br_false, br_dec, brS_true, brS_false, brS_dec, truB, eTru_app, gAdd_int, gSub_int, gMul_int, gMod_pos, gFdiv_pos, gDivmod_pos, gShl_P, gShr_P, gAnd_int, gOr_int, gXor_int, gLt_int, gLe_int, gGt_int, gGe_int, gEq_int, gNe_int, gNeg_int, gLen_tup, gLen_lst, gMax_int, gMin_int, gAbs_int, gInt_int, gIs_non, gIsNot_non, eIsi2, isR_non_int, isR_non_bool, isR_non_str, isR_non_tuple, isR_non_list, isR_bl_int, isR_bl_bool, isR_bl_str, isR_bl_tuple, isR_bl_list, isR_int_int, isR_int_bool, isR_int_str, isR_int_tuple, isR_int_list, isR_str_int, isR_str_bool, isR_str_str, isR_str_tuple, isR_str_list, isR_tup_int, isR_tup_bool, isR_tup_str, isR_tup_tuple, isR_tup_list, isR_lst_int, isR_lst_bool, isR_lst_str, isR_lst_tuple, isR_lst_list, natlit, sTgt_app, gMany_eq, gMany_eqL, setMany_cons, setMany_nil, setMany_nil', ixt0, ixt1, ixt2, ixl0, ixl1, ixl2, ixl3, ixl4, ixl5, ixl6, ixl7, ixl8, ixl9, ixl10, ixl11, ixt3, ixt4, tupok, lstok, isNon_int, isNon_non, isNon_tup, isNon_lst, Bool.not_true, Bool.not_false, decide_true, decide_false, Bool.not_eq_true, decide_eq_true_eq, Bool.not_eq_eq_eq_not, Nat.reduceLeDiff, reduceIte, Int.reduceEq, Int.reduceLT, Int.reduceLE, Int.reduceAdd, Int.reduceSub, Int.reduceMul, Int.reduceNeg, Int.reduceMod, Int.reduceDiv, eLc_app, lcsize, lc_bind, lcL_nil, lcL_one, lcGo_f, lcGo_t, lcFin_ok, wipe_nil, wipe_cons, gNe_l0, gEq_l0, gNe_t2, gEq_t2, gNe_t3, gEq_t3, gEq_str, gNe_str, gEq_bl, gNe_bl, aApp_app, app2_ok, app2_exc, cons_exc1, cons_exc2, b_exc, b1_exc, b2_exc1, b2_exc2, br_exc, brS_exc, R.bind_exc, R.bindL_exc, RL.bind_exc, R.go_exc, RL.go_exc, ret_exc, set_exc, sTry_app, tryGo_nx, tryGo_rt, tryGo_exc, tryEnd_nx, tryEnd_rt, eIsx_app, isx_t, isx_f, isNon_exn, isNon_bl, isNon_str, sDrop_app, gInt_bl, sNew_app, new_ok, sApp_app, app_ok, sFrz_app, frz_own, frz_val, frz_none, eMeth_app, eSlB_app, eSlS_app, eSlN_app, sNewD_app, sPutD_app, eGetD_app, iRev_app, itRv_lst, itRv_tup, gRevL_lst, gVals_dct, gSorted_ints, gSum_ints, gMin3_int, keyP_str, keyP_int, optR_some, getR_some, lookK_hit, lookK_miss, get_own, get_val, gIxD_dct, put_own, putR_some, putD_new, frz_owd, bindI_ok, gSlL_lst, Bool.false_eq_true, and_self, and_true, true_and, sNewF_app, nf_ok, nf2_ok, eBor_go, bor_own, bor_val, plR_bl, plR_int, sNewLB_app, lb_own, sNewFB_app, fb_own, fb_ok, tryGo_excO, sRaiseO_app, eIsy_app, isy_t, isy_f, xf_hit, eT0_app, eT1_app, t0_ok, t1_ok, iStrS_app, sg_ok, tx_add, tx_len, tx_in, tx_notin, tx_eq, tx_ne, tx_slN, tx_slS, tx_slL, tx_sl1, t1_tx, t0_tx, tx_starts, tx_ends, tx_part, sg_tx, e1, e2, e3, e4, e5, i1, i2, i3, i4, i5]
theorem k21_main (ns : List Int) (hl : ns.length ≤ 63) (C : Cells ns) : m_law_k21 [.lst (ns.map .int)] = .ok (.bl true) := by
  have c0 : m_L_cell_41e6 [.lst (ns.map .int), .int 0] = .ok (.int (ns.getD 0 0)) := sp_L_cellN (ns := ns) 0
  have c1 : m_L_cell_41e6 [.lst (ns.map .int), .int 1] = .ok (.int (ns.getD 1 0)) := sp_L_cellN (ns := ns) 1
  have c2 : m_L_cell_41e6 [.lst (ns.map .int), .int 2] = .ok (.int (ns.getD 2 0)) := sp_L_cellN (ns := ns) 2
  have c7 : m_L_cell_41e6 [.lst (ns.map .int), .int 7] = .ok (.int (ns.getD 7 0)) := sp_L_cellN (ns := ns) 7
  obtain ⟨t, ht⟩ := k21_made (ns := ns)
  generalize ns.getD 0 0 = a0 at *
  generalize ns.getD 1 0 = a1 at *
  generalize ns.getD 2 0 = a2 at *
  generalize ns.getD 7 0 = a7 at *
  obtain ⟨p, hp, po⟩ := k21_thing a7
  have rp := k21_refused (way_odd po)
  have kd := k21_kinds
  have hs : a0 % 2 = 0 ∨ a0 % 2 = 1 := by omega
  have hd : a2 % 3 - 1 = 1 ∨ a2 % 3 - 1 = 0 ∨ a2 % 3 - 1 = -1 := by omega
  have told := fun w : Wy => k21_told w (o := decide (a1 % 2 = 1)) hs hd
  generalize hd0 : a2 % 3 - 1 = d at *
  generalize hs0 : a0 % 2 = s at *
  generalize ho : decide (a1 % 2 = 1) = o at *
  obtain ⟨t0, ht0⟩ : ∃ t0 : Str, t0 = S t := ⟨_, rfl⟩
  have ni := k21_notin (t := t0)
  have tt : PV.str t0 = tx t := by rw [ht0]; rfl
  rw [tt] at ni
  have t1 : m_L_as_told_0ce8 [.ins "Even", .str "even", .int s, .bl o, .int d] = .ok (.bl true) := told .even
  have t2 : m_L_as_told_0ce8 [.ins "Off", .str "off", .int s, .bl o, .int d] = .ok (.bl true) := told .off
  have t3 : m_L_as_told_0ce8 [.ins "In", .str "in", .int s, .bl o, .int d] = .ok (.bl true) := told .inn
  have t4 : m_L_as_told_0ce8 [.ins "Up", .str "up", .int s, .bl o, .int d] = .ok (.bl true) := told .up
  have t5 : m_L_as_told_0ce8 [.ins "Down", .str "down", .int s, .bl o, .int d] = .ok (.bl true) := told .down
  have W5 : (.lst [.str "even", .str "off", .str "in", .str "up", .str "down"] : PV) = .lst [.str "even", .str "off", .str "in", .str "up", .str "down"] := rfl
  -- the first loop
  have lp1 : ∀ x7 x8 : Slot, forL (gOne 6) c_law_k21_1 [.int 0, .int 1, .int 2, .int 3, .int 4] [Slot.val (.lst (ns.map .int)), Slot.val (.int s), Slot.val (.bl o), Slot.val (.int d), Slot.val (.lst [.str "even", .str "off", .str "in", .str "up", .str "down"]), Slot.val (.lst [.ins "Even", .ins "Off", .ins "In", .ins "Up", .ins "Down"]), .none, x7, x8] = .nx [Slot.val (.lst (ns.map .int)), Slot.val (.int s), Slot.val (.bl o), Slot.val (.int d), Slot.val (.lst [.str "even", .str "off", .str "in", .str "up", .str "down"]), Slot.val (.lst [.ins "Even", .ins "Off", .ins "In", .ins "Up", .ins "Down"]), Slot.val (.int 4), x7, x8] := fun x7 x8 => by
    have b : ∀ (k : Int) (c w : Str), gIx (.lst [.ins "Even", .ins "Off", .ins "In", .ins "Up", .ins "Down"]) (.int k) = .ok (.ins c) → gIx (.lst [.str "even", .str "off", .str "in", .str "up", .str "down"]) (.int k) = .ok (.str w) → m_L_as_told_0ce8 [.ins c, .str w, .int s, .bl o, .int d] = .ok (.bl true) → c_law_k21_1 [Slot.val (.lst (ns.map .int)), Slot.val (.int s), Slot.val (.bl o), Slot.val (.int d), Slot.val (.lst [.str "even", .str "off", .str "in", .str "up", .str "down"]), Slot.val (.lst [.ins "Even", .ins "Off", .ins "In", .ins "Up", .ins "Down"]), Slot.val (.int k), x7, x8] = .nx [Slot.val (.lst (ns.map .int)), Slot.val (.int s), Slot.val (.bl o), Slot.val (.int d), Slot.val (.lst [.str "even", .str "off", .str "in", .str "up", .str "down"]), Slot.val (.lst [.ins "Even", .ins "Off", .ins "In", .ins "Up", .ins "Down"]), Slot.val (.int k), x7, x8] := fun k c w h1 h2 h3 => by
      unfold c_law_k21_1
      simp (disch := walk_at "nfd") only [gIsB_bl, gIsNotB_bl, gList_lst, gList_tup, fn_app, List.map_cons, List.map_nil, List.cons_append, List.nil_append, List.append_nil, List.replicate, List.length_cons, List.length_nil, Nat.reduceSub, Nat.reduceAdd, sSeq_app, sSet_app, sRet_app, sIf_app, sNop_app, sRaise_app, e2_app, e1_app, eV_app, eC_app, eB_app, aC_app, aN_app, eTup_app, eLst_app, eCall0_app, eCall_app, eAnd_app, eOr_app, eNot_app, eIf_app, eChain_app, List.getElem?_cons_zero, List.getElem?_cons_succ, slotR, b2_ok, b1_ok, cons_ok, b_ok, set_ok, ret_ok, seq_nx, seq_rt, seq_exc, out_rt, out_nx, out_exc, List.set_cons_zero, List.set_cons_succ, R.go_ok, R.bind_ok, R.bindL_ok, RL.go_ok, sFor_app, iSeq_app, itOf_lst, itOf_tup, br_true, br_false, br_dec, brS_true, brS_false, brS_dec, truB, eTru_app, gAdd_int, gSub_int, gMul_int, gMod_pos, gFdiv_pos, gDivmod_pos, gShl_P, gShr_P, gAnd_int, gOr_int, gXor_int, gLt_int, gLe_int, gGt_int, gGe_int, gEq_int, gNe_int, gNeg_int, gLen_tup, gLen_lst, gMax_int, gMin_int, gAbs_int, gInt_int, gIs_non, gIsNot_non, eIsi2, isR_non_int, isR_non_bool, isR_non_str, isR_non_tuple, isR_non_list, isR_bl_int, isR_bl_bool, isR_bl_str, isR_bl_tuple, isR_bl_list, isR_int_int, isR_int_bool, isR_int_str, isR_int_tuple, isR_int_list, isR_str_int, isR_str_bool, isR_str_str, isR_str_tuple, isR_str_list, isR_tup_int, isR_tup_bool, isR_tup_str, isR_tup_tuple, isR_tup_list, isR_lst_int, isR_lst_bool, isR_lst_str, isR_lst_tuple, isR_lst_list, natlit, sTgt_app, gMany_eq, gMany_eqL, setMany_cons, setMany_nil, setMany_nil', ixt0, ixt1, ixt2, ixl0, ixl1, ixl2, ixl3, ixl4, ixl5, ixl6, ixl7, ixl8, ixl9, ixl10, ixl11, ixt3, ixt4, tupok, lstok, isNon_int, isNon_non, isNon_tup, isNon_lst, Bool.not_true, Bool.not_false, decide_true, decide_false, Bool.not_eq_true, decide_eq_true_eq, Bool.not_eq_eq_eq_not, Nat.reduceLeDiff, reduceIte, Int.reduceEq, Int.reduceLT, Int.reduceLE, Int.reduceAdd, Int.reduceSub, Int.reduceMul, Int.reduceNeg, Int.reduceMod, Int.reduceDiv, eLc_app, lcsize, lc_bind, lcL_nil, lcL_one, lcGo_f, lcGo_t, lcFin_ok, wipe_nil, wipe_cons, gNe_l0, gEq_l0, gNe_t2, gEq_t2, gNe_t3, gEq_t3, gEq_str, gNe_str, gEq_bl, gNe_bl, aApp_app, app2_ok, app2_exc, cons_exc1, cons_exc2, b_exc, b1_exc, b2_exc1, b2_exc2, br_exc, brS_exc, R.bind_exc, R.bindL_exc, RL.bind_exc, R.go_exc, RL.go_exc, ret_exc, set_exc, sTry_app, tryGo_nx, tryGo_rt, tryGo_exc, tryEnd_nx, tryEnd_rt, eIsx_app, isx_t, isx_f, isNon_exn, isNon_bl, isNon_str, sDrop_app, gInt_bl, sNew_app, new_ok, sApp_app, app_ok, sFrz_app, frz_own, frz_val, frz_none, eMeth_app, eSlB_app, eSlS_app, eSlN_app, sNewD_app, sPutD_app, eGetD_app, iRev_app, itRv_lst, itRv_tup, gRevL_lst, gVals_dct, gSorted_ints, gSum_ints, gMin3_int, keyP_str, keyP_int, optR_some, getR_some, lookK_hit, lookK_miss, get_own, get_val, gIxD_dct, put_own, putR_some, putD_new, frz_owd, bindI_ok, gSlL_lst, Bool.false_eq_true, and_self, and_true, true_and, sNewF_app, nf_ok, nf2_ok, eBor_go, bor_own, bor_val, plR_bl, plR_int, sNewLB_app, lb_own, sNewFB_app, fb_own, fb_ok, tryGo_excO, sRaiseO_app, eIsy_app, isy_t, isy_f, xf_hit, eT0_app, eT1_app, t0_ok, t1_ok, iStrS_app, sg_ok, tx_add, tx_len, tx_in, tx_notin, tx_eq, tx_ne, tx_slN, tx_slS, tx_slL, tx_sl1, t1_tx, t0_tx, tx_starts, tx_ends, tx_part, sg_tx, h1, h2, h3]
    have st : ∀ (k : Int) (z : Slot) (l : List PV), forL (gOne 6) c_law_k21_1 (.int k :: l) [Slot.val (.lst (ns.map .int)), Slot.val (.int s), Slot.val (.bl o), Slot.val (.int d), Slot.val (.lst [.str "even", .str "off", .str "in", .str "up", .str "down"]), Slot.val (.lst [.ins "Even", .ins "Off", .ins "In", .ins "Up", .ins "Down"]), z, x7, x8] = Fl.loop (c_law_k21_1 [Slot.val (.lst (ns.map .int)), Slot.val (.int s), Slot.val (.bl o), Slot.val (.int d), Slot.val (.lst [.str "even", .str "off", .str "in", .str "up", .str "down"]), Slot.val (.lst [.ins "Even", .ins "Off", .ins "In", .ins "Up", .ins "Down"]), Slot.val (.int k), x7, x8]) (forL (gOne 6) c_law_k21_1 l) := fun k z l => by
      rw [forL_cons]; rfl
    rw [st, b 0 _ _ ixl0 ixl0 t1, loop_nx, st, b 1 _ _ ixl1 ixl1 t2, loop_nx, st, b 2 _ _ ixl2 ixl2 t3, loop_nx, st, b 3 _ _ ixl3 ixl3 t4, loop_nx, st, b 4 _ _ ixl4 ixl4 t5, loop_nx]
    rfl
  -- the second one
  have y1 : m_way_of [.str "even"] = .ok (.ins "Even") := sp_way_of .even
  have y2 : m_way_of [.str "off"] = .ok (.ins "Off") := sp_way_of .off
  have y3 : m_way_of [.str "in"] = .ok (.ins "In") := sp_way_of .inn
  have y4 : m_way_of [.str "up"] = .ok (.ins "Up") := sp_way_of .up
  have y5 : m_way_of [.str "down"] = .ok (.ins "Down") := sp_way_of .down
  have lp2 : ∀ x6 x7 x8 : Slot, forL (gOne 7) c_law_k21_2 [.str "even", .str "off", .str "in", .str "up", .str "down"] [Slot.val (.lst (ns.map .int)), Slot.val (.int s), Slot.val (.bl o), Slot.val (.int d), Slot.val (.lst [.str "even", .str "off", .str "in", .str "up", .str "down"]), Slot.val (.lst [.ins "Even", .ins "Off", .ins "In", .ins "Up", .ins "Down"]), x6, x7, x8] = .nx [Slot.val (.lst (ns.map .int)), Slot.val (.int s), Slot.val (.bl o), Slot.val (.int d), Slot.val (.lst [.str "even", .str "off", .str "in", .str "up", .str "down"]), Slot.val (.lst [.ins "Even", .ins "Off", .ins "In", .ins "Up", .ins "Down"]), x6, Slot.val (.str "down"), x8] := fun x6 x7 x8 => by
    have b : ∀ (c w : Str), m_way_of [.str w] = .ok (.ins c) → m_L_as_told_0ce8 [.ins c, .str w, .int s, .bl o, .int d] = .ok (.bl true) → c_law_k21_2 [Slot.val (.lst (ns.map .int)), Slot.val (.int s), Slot.val (.bl o), Slot.val (.int d), Slot.val (.lst [.str "even", .str "off", .str "in", .str "up", .str "down"]), Slot.val (.lst [.ins "Even", .ins "Off", .ins "In", .ins "Up", .ins "Down"]), x6, Slot.val (.str w), x8] = .nx [Slot.val (.lst (ns.map .int)), Slot.val (.int s), Slot.val (.bl o), Slot.val (.int d), Slot.val (.lst [.str "even", .str "off", .str "in", .str "up", .str "down"]), Slot.val (.lst [.ins "Even", .ins "Off", .ins "In", .ins "Up", .ins "Down"]), x6, Slot.val (.str w), x8] := fun c w h1 h2 => by
      unfold c_law_k21_2
      simp (disch := walk_at "nfd") only [gIsB_bl, gIsNotB_bl, gList_lst, gList_tup, fn_app, List.map_cons, List.map_nil, List.cons_append, List.nil_append, List.append_nil, List.replicate, List.length_cons, List.length_nil, Nat.reduceSub, Nat.reduceAdd, sSeq_app, sSet_app, sRet_app, sIf_app, sNop_app, sRaise_app, e2_app, e1_app, eV_app, eC_app, eB_app, aC_app, aN_app, eTup_app, eLst_app, eCall0_app, eCall_app, eAnd_app, eOr_app, eNot_app, eIf_app, eChain_app, List.getElem?_cons_zero, List.getElem?_cons_succ, slotR, b2_ok, b1_ok, cons_ok, b_ok, set_ok, ret_ok, seq_nx, seq_rt, seq_exc, out_rt, out_nx, out_exc, List.set_cons_zero, List.set_cons_succ, R.go_ok, R.bind_ok, R.bindL_ok, RL.go_ok, sFor_app, iSeq_app, itOf_lst, itOf_tup, br_true, br_false, br_dec, brS_true, brS_false, brS_dec, truB, eTru_app, gAdd_int, gSub_int, gMul_int, gMod_pos, gFdiv_pos, gDivmod_pos, gShl_P, gShr_P, gAnd_int, gOr_int, gXor_int, gLt_int, gLe_int, gGt_int, gGe_int, gEq_int, gNe_int, gNeg_int, gLen_tup, gLen_lst, gMax_int, gMin_int, gAbs_int, gInt_int, gIs_non, gIsNot_non, eIsi2, isR_non_int, isR_non_bool, isR_non_str, isR_non_tuple, isR_non_list, isR_bl_int, isR_bl_bool, isR_bl_str, isR_bl_tuple, isR_bl_list, isR_int_int, isR_int_bool, isR_int_str, isR_int_tuple, isR_int_list, isR_str_int, isR_str_bool, isR_str_str, isR_str_tuple, isR_str_list, isR_tup_int, isR_tup_bool, isR_tup_str, isR_tup_tuple, isR_tup_list, isR_lst_int, isR_lst_bool, isR_lst_str, isR_lst_tuple, isR_lst_list, natlit, sTgt_app, gMany_eq, gMany_eqL, setMany_cons, setMany_nil, setMany_nil', ixt0, ixt1, ixt2, ixl0, ixl1, ixl2, ixl3, ixl4, ixl5, ixl6, ixl7, ixl8, ixl9, ixl10, ixl11, ixt3, ixt4, tupok, lstok, isNon_int, isNon_non, isNon_tup, isNon_lst, Bool.not_true, Bool.not_false, decide_true, decide_false, Bool.not_eq_true, decide_eq_true_eq, Bool.not_eq_eq_eq_not, Nat.reduceLeDiff, reduceIte, Int.reduceEq, Int.reduceLT, Int.reduceLE, Int.reduceAdd, Int.reduceSub, Int.reduceMul, Int.reduceNeg, Int.reduceMod, Int.reduceDiv, eLc_app, lcsize, lc_bind, lcL_nil, lcL_one, lcGo_f, lcGo_t, lcFin_ok, wipe_nil, wipe_cons, gNe_l0, gEq_l0, gNe_t2, gEq_t2, gNe_t3, gEq_t3, gEq_str, gNe_str, gEq_bl, gNe_bl, aApp_app, app2_ok, app2_exc, cons_exc1, cons_exc2, b_exc, b1_exc, b2_exc1, b2_exc2, br_exc, brS_exc, R.bind_exc, R.bindL_exc, RL.bind_exc, R.go_exc, RL.go_exc, ret_exc, set_exc, sTry_app, tryGo_nx, tryGo_rt, tryGo_exc, tryEnd_nx, tryEnd_rt, eIsx_app, isx_t, isx_f, isNon_exn, isNon_bl, isNon_str, sDrop_app, gInt_bl, sNew_app, new_ok, sApp_app, app_ok, sFrz_app, frz_own, frz_val, frz_none, eMeth_app, eSlB_app, eSlS_app, eSlN_app, sNewD_app, sPutD_app, eGetD_app, iRev_app, itRv_lst, itRv_tup, gRevL_lst, gVals_dct, gSorted_ints, gSum_ints, gMin3_int, keyP_str, keyP_int, optR_some, getR_some, lookK_hit, lookK_miss, get_own, get_val, gIxD_dct, put_own, putR_some, putD_new, frz_owd, bindI_ok, gSlL_lst, Bool.false_eq_true, and_self, and_true, true_and, sNewF_app, nf_ok, nf2_ok, eBor_go, bor_own, bor_val, plR_bl, plR_int, sNewLB_app, lb_own, sNewFB_app, fb_own, fb_ok, tryGo_excO, sRaiseO_app, eIsy_app, isy_t, isy_f, xf_hit, eT0_app, eT1_app, t0_ok, t1_ok, iStrS_app, sg_ok, tx_add, tx_len, tx_in, tx_notin, tx_eq, tx_ne, tx_slN, tx_slS, tx_slL, tx_sl1, t1_tx, t0_tx, tx_starts, tx_ends, tx_part, sg_tx, h1, h2]
    have st : ∀ (w : Str) (z : Slot) (l : List PV), forL (gOne 7) c_law_k21_2 (.str w :: l) [Slot.val (.lst (ns.map .int)), Slot.val (.int s), Slot.val (.bl o), Slot.val (.int d), Slot.val (.lst [.str "even", .str "off", .str "in", .str "up", .str "down"]), Slot.val (.lst [.ins "Even", .ins "Off", .ins "In", .ins "Up", .ins "Down"]), x6, z, x8] = Fl.loop (c_law_k21_2 [Slot.val (.lst (ns.map .int)), Slot.val (.int s), Slot.val (.bl o), Slot.val (.int d), Slot.val (.lst [.str "even", .str "off", .str "in", .str "up", .str "down"]), Slot.val (.lst [.ins "Even", .ins "Off", .ins "In", .ins "Up", .ins "Down"]), x6, Slot.val (.str w), x8]) (forL (gOne 7) c_law_k21_2 l) := fun w z l => by
      rw [forL_cons]; rfl
    rw [st, b _ _ y1 t1, loop_nx, st, b _ _ y2 t2, loop_nx, st, b _ _ y3 t3, loop_nx, st, b _ _ y4 t4, loop_nx, st, b _ _ y5 t5, loop_nx]
    rfl
  have hr : iRng1 (eC (.int 5)) [Slot.val (.lst (ns.map .int)), Slot.val (.int s), Slot.val (.bl o), Slot.val (.int d), Slot.val (.lst [.str "even", .str "off", .str "in", .str "up", .str "down"]), Slot.val (.lst [.ins "Even", .ins "Off", .ins "In", .ins "Up", .ins "Down"]), .none, .none, .none] = .ok [.int 0, .int 1, .int 2, .int 3, .int 4] := iRng1_ok (j := 5) rfl (by decide) (by decide)
  have head : ∀ T : Lo → Fl, (sSeq (sSet 1 (e2 gMod (eCall m_L_cell_41e6 [] (aC (eV 0) (aC (eC (.int 0)) aN))) (eC (.int 2))))
    (sSeq (sSet 2 (e2 gEq (e2 gMod (eCall m_L_cell_41e6 [] (aC (eV 0) (aC (eC (.int 1)) aN))) (eC (.int 2))) (eC (.int 1))))
    (sSeq (sSet 3 (e2 gSub (e2 gMod (eCall m_L_cell_41e6 [] (aC (eV 0) (aC (eC (.int 2)) aN))) (eC (.int 3))) (eC (.int 1)))) T))) [Slot.val (.lst (ns.map .int)), .none, .none, .none, .none, .none, .none, .none, .none] = T [Slot.val (.lst (ns.map .int)), Slot.val (.int s), Slot.val (.bl o), Slot.val (.int d), .none, .none, .none, .none, .none] := fun T => by
    simp (disch := walk_at "nfd") only [gIsB_bl, gIsNotB_bl, gList_lst, gList_tup, fn_app, List.map_cons, List.map_nil, List.cons_append, List.nil_append, List.append_nil, List.replicate, List.length_cons, List.length_nil, Nat.reduceSub, Nat.reduceAdd, sSeq_app, sSet_app, sRet_app, sIf_app, sNop_app, sRaise_app, e2_app, e1_app, eV_app, eC_app, eB_app, aC_app, aN_app, eTup_app, eLst_app, eCall0_app, eCall_app, eAnd_app, eOr_app, eNot_app, eIf_app, eChain_app, List.getElem?_cons_zero, List.getElem?_cons_succ, slotR, b2_ok, b1_ok, cons_ok, b_ok, set_ok, ret_ok, seq_nx, seq_rt, seq_exc, out_rt, out_nx, out_exc, List.set_cons_zero, List.set_cons_succ, R.go_ok, R.bind_ok, R.bindL_ok, RL.go_ok, sFor_app, iSeq_app, itOf_lst, itOf_tup, br_true, br_false, br_dec, brS_true, brS_false, brS_dec, truB, eTru_app, gAdd_int, gSub_int, gMul_int, gMod_pos, gFdiv_pos, gDivmod_pos, gShl_P, gShr_P, gAnd_int, gOr_int, gXor_int, gLt_int, gLe_int, gGt_int, gGe_int, gEq_int, gNe_int, gNeg_int, gLen_tup, gLen_lst, gMax_int, gMin_int, gAbs_int, gInt_int, gIs_non, gIsNot_non, eIsi2, isR_non_int, isR_non_bool, isR_non_str, isR_non_tuple, isR_non_list, isR_bl_int, isR_bl_bool, isR_bl_str, isR_bl_tuple, isR_bl_list, isR_int_int, isR_int_bool, isR_int_str, isR_int_tuple, isR_int_list, isR_str_int, isR_str_bool, isR_str_str, isR_str_tuple, isR_str_list, isR_tup_int, isR_tup_bool, isR_tup_str, isR_tup_tuple, isR_tup_list, isR_lst_int, isR_lst_bool, isR_lst_str, isR_lst_tuple, isR_lst_list, natlit, sTgt_app, gMany_eq, gMany_eqL, setMany_cons, setMany_nil, setMany_nil', ixt0, ixt1, ixt2, ixl0, ixl1, ixl2, ixl3, ixl4, ixl5, ixl6, ixl7, ixl8, ixl9, ixl10, ixl11, ixt3, ixt4, tupok, lstok, isNon_int, isNon_non, isNon_tup, isNon_lst, Bool.not_true, Bool.not_false, decide_true, decide_false, Bool.not_eq_true, decide_eq_true_eq, Bool.not_eq_eq_eq_not, Nat.reduceLeDiff, reduceIte, Int.reduceEq, Int.reduceLT, Int.reduceLE, Int.reduceAdd, Int.reduceSub, Int.reduceMul, Int.reduceNeg, Int.reduceMod, Int.reduceDiv, eLc_app, lcsize, lc_bind, lcL_nil, lcL_one, lcGo_f, lcGo_t, lcFin_ok, wipe_nil, wipe_cons, gNe_l0, gEq_l0, gNe_t2, gEq_t2, gNe_t3, gEq_t3, gEq_str, gNe_str, gEq_bl, gNe_bl, aApp_app, app2_ok, app2_exc, cons_exc1, cons_exc2, b_exc, b1_exc, b2_exc1, b2_exc2, br_exc, brS_exc, R.bind_exc, R.bindL_exc, RL.bind_exc, R.go_exc, RL.go_exc, ret_exc, set_exc, sTry_app, tryGo_nx, tryGo_rt, tryGo_exc, tryEnd_nx, tryEnd_rt, eIsx_app, isx_t, isx_f, isNon_exn, isNon_bl, isNon_str, sDrop_app, gInt_bl, sNew_app, new_ok, sApp_app, app_ok, sFrz_app, frz_own, frz_val, frz_none, eMeth_app, eSlB_app, eSlS_app, eSlN_app, sNewD_app, sPutD_app, eGetD_app, iRev_app, itRv_lst, itRv_tup, gRevL_lst, gVals_dct, gSorted_ints, gSum_ints, gMin3_int, keyP_str, keyP_int, optR_some, getR_some, lookK_hit, lookK_miss, get_own, get_val, gIxD_dct, put_own, putR_some, putD_new, frz_owd, bindI_ok, gSlL_lst, Bool.false_eq_true, and_self, and_true, true_and, sNewF_app, nf_ok, nf2_ok, eBor_go, bor_own, bor_val, plR_bl, plR_int, sNewLB_app, lb_own, sNewFB_app, fb_own, fb_ok, tryGo_excO, sRaiseO_app, eIsy_app, isy_t, isy_f, xf_hit, eT0_app, eT1_app, t0_ok, t1_ok, iStrS_app, sg_ok, tx_add, tx_len, tx_in, tx_notin, tx_eq, tx_ne, tx_slN, tx_slS, tx_slL, tx_sl1, t1_tx, t0_tx, tx_starts, tx_ends, tx_part, sg_tx, c0, c1, c2, hs0, ho, hd0]
  unfold m_law_k21 b_law_k21
  rw [show ∀ s : Lo → Fl, fnSem 9 1 s [.lst (ns.map .int)] = (s [Slot.val (.lst (ns.map .int)), .none, .none, .none, .none, .none, .none, .none, .none]).out from fun s => fn_app rfl, head]
  by_cases hw : t0 ∈ k21W
  · simp (disch := walk_at "nfd") only [gIsB_bl, gIsNotB_bl, gList_lst, gList_tup, fn_app, List.map_cons, List.map_nil, List.cons_append, List.nil_append, List.append_nil, List.replicate, List.length_cons, List.length_nil, Nat.reduceSub, Nat.reduceAdd, sSeq_app, sSet_app, sRet_app, sIf_app, sNop_app, sRaise_app, e2_app, e1_app, eV_app, eC_app, eB_app, aC_app, aN_app, eTup_app, eLst_app, eCall0_app, eCall_app, eAnd_app, eOr_app, eNot_app, eIf_app, eChain_app, List.getElem?_cons_zero, List.getElem?_cons_succ, slotR, b2_ok, b1_ok, cons_ok, b_ok, set_ok, ret_ok, seq_nx, seq_rt, seq_exc, out_rt, out_nx, out_exc, List.set_cons_zero, List.set_cons_succ, R.go_ok, R.bind_ok, R.bindL_ok, RL.go_ok, sFor_app, iSeq_app, itOf_lst, itOf_tup, br_true, br_false, br_dec, brS_true, brS_false, brS_dec, truB, eTru_app, gAdd_int, gSub_int, gMul_int, gMod_pos, gFdiv_pos, gDivmod_pos, gShl_P, gShr_P, gAnd_int, gOr_int, gXor_int, gLt_int, gLe_int, gGt_int, gGe_int, gEq_int, gNe_int, gNeg_int, gLen_tup, gLen_lst, gMax_int, gMin_int, gAbs_int, gInt_int, gIs_non, gIsNot_non, eIsi2, isR_non_int, isR_non_bool, isR_non_str, isR_non_tuple, isR_non_list, isR_bl_int, isR_bl_bool, isR_bl_str, isR_bl_tuple, isR_bl_list, isR_int_int, isR_int_bool, isR_int_str, isR_int_tuple, isR_int_list, isR_str_int, isR_str_bool, isR_str_str, isR_str_tuple, isR_str_list, isR_tup_int, isR_tup_bool, isR_tup_str, isR_tup_tuple, isR_tup_list, isR_lst_int, isR_lst_bool, isR_lst_str, isR_lst_tuple, isR_lst_list, natlit, sTgt_app, gMany_eq, gMany_eqL, setMany_cons, setMany_nil, setMany_nil', ixt0, ixt1, ixt2, ixl0, ixl1, ixl2, ixl3, ixl4, ixl5, ixl6, ixl7, ixl8, ixl9, ixl10, ixl11, ixt3, ixt4, tupok, lstok, isNon_int, isNon_non, isNon_tup, isNon_lst, Bool.not_true, Bool.not_false, decide_true, decide_false, Bool.not_eq_true, decide_eq_true_eq, Bool.not_eq_eq_eq_not, Nat.reduceLeDiff, reduceIte, Int.reduceEq, Int.reduceLT, Int.reduceLE, Int.reduceAdd, Int.reduceSub, Int.reduceMul, Int.reduceNeg, Int.reduceMod, Int.reduceDiv, eLc_app, lcsize, lc_bind, lcL_nil, lcL_one, lcGo_f, lcGo_t, lcFin_ok, wipe_nil, wipe_cons, gNe_l0, gEq_l0, gNe_t2, gEq_t2, gNe_t3, gEq_t3, gEq_str, gNe_str, gEq_bl, gNe_bl, aApp_app, app2_ok, app2_exc, cons_exc1, cons_exc2, b_exc, b1_exc, b2_exc1, b2_exc2, br_exc, brS_exc, R.bind_exc, R.bindL_exc, RL.bind_exc, R.go_exc, RL.go_exc, ret_exc, set_exc, sTry_app, tryGo_nx, tryGo_rt, tryGo_exc, tryEnd_nx, tryEnd_rt, eIsx_app, isx_t, isx_f, isNon_exn, isNon_bl, isNon_str, sDrop_app, gInt_bl, sNew_app, new_ok, sApp_app, app_ok, sFrz_app, frz_own, frz_val, frz_none, eMeth_app, eSlB_app, eSlS_app, eSlN_app, sNewD_app, sPutD_app, eGetD_app, iRev_app, itRv_lst, itRv_tup, gRevL_lst, gVals_dct, gSorted_ints, gSum_ints, gMin3_int, keyP_str, keyP_int, optR_some, getR_some, lookK_hit, lookK_miss, get_own, get_val, gIxD_dct, put_own, putR_some, putD_new, frz_owd, bindI_ok, gSlL_lst, Bool.false_eq_true, and_self, and_true, true_and, sNewF_app, nf_ok, nf2_ok, eBor_go, bor_own, bor_val, plR_bl, plR_int, sNewLB_app, lb_own, sNewFB_app, fb_own, fb_ok, tryGo_excO, sRaiseO_app, eIsy_app, isy_t, isy_f, xf_hit, eT0_app, eT1_app, t0_ok, t1_ok, iStrS_app, sg_ok, tx_add, tx_len, tx_in, tx_notin, tx_eq, tx_ne, tx_slN, tx_slS, tx_slL, tx_sl1, t1_tx, t0_tx, tx_starts, tx_ends, tx_part, sg_tx, hr, lp1, ht, ni, hw, c7, hp, rp, kd, lp2]
  · have rw0 := k21_refused (way_not hw)
    rw [tt] at rw0
    simp (disch := walk_at "nfd") only [gIsB_bl, gIsNotB_bl, gList_lst, gList_tup, fn_app, List.map_cons, List.map_nil, List.cons_append, List.nil_append, List.append_nil, List.replicate, List.length_cons, List.length_nil, Nat.reduceSub, Nat.reduceAdd, sSeq_app, sSet_app, sRet_app, sIf_app, sNop_app, sRaise_app, e2_app, e1_app, eV_app, eC_app, eB_app, aC_app, aN_app, eTup_app, eLst_app, eCall0_app, eCall_app, eAnd_app, eOr_app, eNot_app, eIf_app, eChain_app, List.getElem?_cons_zero, List.getElem?_cons_succ, slotR, b2_ok, b1_ok, cons_ok, b_ok, set_ok, ret_ok, seq_nx, seq_rt, seq_exc, out_rt, out_nx, out_exc, List.set_cons_zero, List.set_cons_succ, R.go_ok, R.bind_ok, R.bindL_ok, RL.go_ok, sFor_app, iSeq_app, itOf_lst, itOf_tup, br_true, br_false, br_dec, brS_true, brS_false, brS_dec, truB, eTru_app, gAdd_int, gSub_int, gMul_int, gMod_pos, gFdiv_pos, gDivmod_pos, gShl_P, gShr_P, gAnd_int, gOr_int, gXor_int, gLt_int, gLe_int, gGt_int, gGe_int, gEq_int, gNe_int, gNeg_int, gLen_tup, gLen_lst, gMax_int, gMin_int, gAbs_int, gInt_int, gIs_non, gIsNot_non, eIsi2, isR_non_int, isR_non_bool, isR_non_str, isR_non_tuple, isR_non_list, isR_bl_int, isR_bl_bool, isR_bl_str, isR_bl_tuple, isR_bl_list, isR_int_int, isR_int_bool, isR_int_str, isR_int_tuple, isR_int_list, isR_str_int, isR_str_bool, isR_str_str, isR_str_tuple, isR_str_list, isR_tup_int, isR_tup_bool, isR_tup_str, isR_tup_tuple, isR_tup_list, isR_lst_int, isR_lst_bool, isR_lst_str, isR_lst_tuple, isR_lst_list, natlit, sTgt_app, gMany_eq, gMany_eqL, setMany_cons, setMany_nil, setMany_nil', ixt0, ixt1, ixt2, ixl0, ixl1, ixl2, ixl3, ixl4, ixl5, ixl6, ixl7, ixl8, ixl9, ixl10, ixl11, ixt3, ixt4, tupok, lstok, isNon_int, isNon_non, isNon_tup, isNon_lst, Bool.not_true, Bool.not_false, decide_true, decide_false, Bool.not_eq_true, decide_eq_true_eq, Bool.not_eq_eq_eq_not, Nat.reduceLeDiff, reduceIte, Int.reduceEq, Int.reduceLT, Int.reduceLE, Int.reduceAdd, Int.reduceSub, Int.reduceMul, Int.reduceNeg, Int.reduceMod, Int.reduceDiv, eLc_app, lcsize, lc_bind, lcL_nil, lcL_one, lcGo_f, lcGo_t, lcFin_ok, wipe_nil, wipe_cons, gNe_l0, gEq_l0, gNe_t2, gEq_t2, gNe_t3, gEq_t3, gEq_str, gNe_str, gEq_bl, gNe_bl, aApp_app, app2_ok, app2_exc, cons_exc1, cons_exc2, b_exc, b1_exc, b2_exc1, b2_exc2, br_exc, brS_exc, R.bind_exc, R.bindL_exc, RL.bind_exc, R.go_exc, RL.go_exc, ret_exc, set_exc, sTry_app, tryGo_nx, tryGo_rt, tryGo_exc, tryEnd_nx, tryEnd_rt, eIsx_app, isx_t, isx_f, isNon_exn, isNon_bl, isNon_str, sDrop_app, gInt_bl, sNew_app, new_ok, sApp_app, app_ok, sFrz_app, frz_own, frz_val, frz_none, eMeth_app, eSlB_app, eSlS_app, eSlN_app, sNewD_app, sPutD_app, eGetD_app, iRev_app, itRv_lst, itRv_tup, gRevL_lst, gVals_dct, gSorted_ints, gSum_ints, gMin3_int, keyP_str, keyP_int, optR_some, getR_some, lookK_hit, lookK_miss, get_own, get_val, gIxD_dct, put_own, putR_some, putD_new, frz_owd, bindI_ok, gSlL_lst, Bool.false_eq_true, and_self, and_true, true_and, sNewF_app, nf_ok, nf2_ok, eBor_go, bor_own, bor_val, plR_bl, plR_int, sNewLB_app, lb_own, sNewFB_app, fb_own, fb_ok, tryGo_excO, sRaiseO_app, eIsy_app, isy_t, isy_f, xf_hit, eT0_app, eT1_app, t0_ok, t1_ok, iStrS_app, sg_ok, tx_add, tx_len, tx_in, tx_notin, tx_eq, tx_ne, tx_slN, tx_slS, tx_slL, tx_sl1, t1_tx, t0_tx, tx_starts, tx_ends, tx_part, sg_tx, hr, lp1, ht, ni, hw, rw0, c7, hp, rp, kd, lp2]
end Nf


namespace Nf.W
open PySem PySem.Spec PyProof.Rows L2 Nf
section
variable {P : Program} {w : World} {K : PySem.W.Frag} {h : Heap} {mg : Str → Option Value}
theorem GM_Even_goes_on (cc : SaysN fa fn ex K) (X : K.In h) (G : h.Ns mainGlobals mg) : GoodM P w K mg "Even" "goes_on" 1 4 ["self", "sign", "odd", "side"] m_Even_goes_on := by
  have c := cc.1
  obtain ⟨fd, F⟩ := c.def_ 9 (d := dm_Even_goes_on) rfl
  have F : FunD K "goes_on" "Even.goes_on" (defArgs s_Even_goes_on) (defBody s_Even_goes_on) (defScope s_Even_goes_on) [] [] (He.ma K (He.ga K "Even") "goes_on") fd := F
  have S := sc_Even_goes_on
  refine goodM_mk (k := 0) (N := N_Even_goes_on) F (He.glo_ok X G (c.fact 12 (f := .glo "Even") rfl)) (He.cls_ok (c.fact 38 (f := .cls "Even") rfl)) (He.meth_ok (c.fact 45 (f := .meth "Even" "goes_on") rfl)) S rfl (fun _ _ _ _ _ _ us hl => match us, hl with | [_, _, _, _], _ => rfl) (fun base cdv A outer s H E G hr => ?_)
  have tk : Takes (cxOf (L2.CX P w) P w K mg base N_Even_goes_on "Even.goes_on" (defScope s_Even_goes_on) (He.ma K (He.ga K "Even") "goes_on") cdv A outer s H E) _ := takes_of rfl rfl rfl rfl
  have hu := hr.units
  exact (ss_one (ss_ret (se_orB (se_gt (se_V 3) se_int) (se_one (se_andB (se_eq hu (se_V 3) se_int) (se_one (se_V 2)))))))
theorem GM_Off_goes_on (cc : SaysN fa fn ex K) (X : K.In h) (G : h.Ns mainGlobals mg) : GoodM P w K mg "Off" "goes_on" 1 4 ["self", "sign", "odd", "side"] m_Off_goes_on := by
  have c := cc.1
  obtain ⟨fd, F⟩ := c.def_ 10 (d := dm_Off_goes_on) rfl
  have F : FunD K "goes_on" "Off.goes_on" (defArgs s_Off_goes_on) (defBody s_Off_goes_on) (defScope s_Off_goes_on) [] [] (He.ma K (He.ga K "Off") "goes_on") fd := F
  have S := sc_Off_goes_on
  refine goodM_mk (k := 0) (N := N_Off_goes_on) F (He.glo_ok X G (c.fact 26 (f := .glo "Off") rfl)) (He.cls_ok (c.fact 42 (f := .cls "Off") rfl)) (He.meth_ok (c.fact 46 (f := .meth "Off" "goes_on") rfl)) S rfl (fun _ _ _ _ _ _ us hl => match us, hl with | [_, _, _, _], _ => rfl) (fun base cdv A outer s H E G hr => ?_)
  have tk : Takes (cxOf (L2.CX P w) P w K mg base N_Off_goes_on "Off.goes_on" (defScope s_Off_goes_on) (He.ma K (He.ga K "Off") "goes_on") cdv A outer s H E) _ := takes_of rfl rfl rfl rfl
  have hu := hr.units
  exact (ss_one (ss_ret (se_ge (se_V 3) se_int)))
theorem GM_In_goes_on (cc : SaysN fa fn ex K) (X : K.In h) (G : h.Ns mainGlobals mg) : GoodM P w K mg "In" "goes_on" 1 4 ["self", "sign", "odd", "side"] m_Way_goes_on := by
  have c := cc.1
  obtain ⟨fd, F⟩ := c.def_ 11 (d := dm_In_goes_on) rfl
  have F : FunD K "goes_on" "Way.goes_on" (defArgs s_Way_goes_on) (defBody s_Way_goes_on) (defScope s_Way_goes_on) [] [] (He.ma K (He.ga K "In") "goes_on") fd := F
  have S := sc_Way_goes_on
  refine goodM_mk (k := 0) (N := N_Way_goes_on) F (He.glo_ok X G (c.fact 14 (f := .glo "In") rfl)) (He.cls_ok (c.fact 40 (f := .cls "In") rfl)) (He.meth_ok (c.fact 47 (f := .meth "In" "goes_on") rfl)) S rfl (fun _ _ _ _ _ _ us hl => match us, hl with | [_, _, _, _], _ => rfl) (fun base cdv A outer s H E G hr => ?_)
  have tk : Takes (cxOf (L2.CX P w) P w K mg base N_Way_goes_on "Way.goes_on" (defScope s_Way_goes_on) (He.ma K (He.ga K "In") "goes_on") cdv A outer s H E) _ := takes_of rfl rfl rfl rfl
  have hu := hr.units
  exact (ss_one (ss_ret se_bl))
theorem GM_Up_goes_on (cc : SaysN fa fn ex K) (X : K.In h) (G : h.Ns mainGlobals mg) : GoodM P w K mg "Up" "goes_on" 1 4 ["self", "sign", "odd", "side"] m_Up_goes_on := by
  have c := cc.1
  obtain ⟨fd, F⟩ := c.def_ 12 (d := dm_Up_goes_on) rfl
  have F : FunD K "goes_on" "Up.goes_on" (defArgs s_Up_goes_on) (defBody s_Up_goes_on) (defScope s_Up_goes_on) [] [] (He.ma K (He.ga K "Up") "goes_on") fd := F
  have S := sc_Up_goes_on
  refine goodM_mk (k := 0) (N := N_Up_goes_on) F (He.glo_ok X G (c.fact 27 (f := .glo "Up") rfl)) (He.cls_ok (c.fact 44 (f := .cls "Up") rfl)) (He.meth_ok (c.fact 48 (f := .meth "Up" "goes_on") rfl)) S rfl (fun _ _ _ _ _ _ us hl => match us, hl with | [_, _, _, _], _ => rfl) (fun base cdv A outer s H E G hr => ?_)
  have tk : Takes (cxOf (L2.CX P w) P w K mg base N_Up_goes_on "Up.goes_on" (defScope s_Up_goes_on) (He.ma K (He.ga K "Up") "goes_on") cdv A outer s H E) _ := takes_of rfl rfl rfl rfl
  have hu := hr.units
  exact (ss_one (ss_ret (se_eq hu (se_V 1) se_int)))
theorem GM_Down_goes_on (cc : SaysN fa fn ex K) (X : K.In h) (G : h.Ns mainGlobals mg) : GoodM P w K mg "Down" "goes_on" 1 4 ["self", "sign", "odd", "side"] m_Down_goes_on := by
  have c := cc.1
  obtain ⟨fd, F⟩ := c.def_ 13 (d := dm_Down_goes_on) rfl
  have F : FunD K "goes_on" "Down.goes_on" (defArgs s_Down_goes_on) (defBody s_Down_goes_on) (defScope s_Down_goes_on) [] [] (He.ma K (He.ga K "Down") "goes_on") fd := F
  have S := sc_Down_goes_on
  refine goodM_mk (k := 0) (N := N_Down_goes_on) F (He.glo_ok X G (c.fact 11 (f := .glo "Down") rfl)) (He.cls_ok (c.fact 36 (f := .cls "Down") rfl)) (He.meth_ok (c.fact 49 (f := .meth "Down" "goes_on") rfl)) S rfl (fun _ _ _ _ _ _ us hl => match us, hl with | [_, _, _, _], _ => rfl) (fun base cdv A outer s H E G hr => ?_)
  have tk : Takes (cxOf (L2.CX P w) P w K mg base N_Down_goes_on "Down.goes_on" (defScope s_Down_goes_on) (He.ma K (He.ga K "Down") "goes_on") cdv A outer s H E) _ := takes_of rfl rfl rfl rfl
  have hu := hr.units
  exact (ss_one (ss_ret (se_eq hu (se_V 1) se_int)))
theorem GM_Even_ends (cc : SaysN fa fn ex K) (X : K.In h) (G : h.Ns mainGlobals mg) : GoodM P w K mg "Even" "ends" 1 2 ["self", "sign"] m_Even_ends := by
  have c := cc.1
  obtain ⟨fd, F⟩ := c.def_ 14 (d := dm_Even_ends) rfl
  have F : FunD K "ends" "Even.ends" (defArgs s_Even_ends) (defBody s_Even_ends) (defScope s_Even_ends) [] [] (He.ma K (He.ga K "Even") "ends") fd := F
  have S := sc_Even_ends
  refine goodM_mk (k := 0) (N := N_Even_ends) F (He.glo_ok X G (c.fact 12 (f := .glo "Even") rfl)) (He.cls_ok (c.fact 38 (f := .cls "Even") rfl)) (He.meth_ok (c.fact 50 (f := .meth "Even" "ends") rfl)) S rfl (fun _ _ _ _ _ _ us hl => match us, hl with | [_, _], _ => rfl) (fun base cdv A outer s H E G hr => ?_)
  have tk : Takes (cxOf (L2.CX P w) P w K mg base N_Even_ends "Even.ends" (defScope s_Even_ends) (He.ma K (He.ga K "Even") "ends") cdv A outer s H E) _ := takes_of rfl rfl rfl rfl
  have hu := hr.units
  exact (ss_one (ss_ret se_bl))
theorem GM_Off_ends (cc : SaysN fa fn ex K) (X : K.In h) (G : h.Ns mainGlobals mg) : GoodM P w K mg "Off" "ends" 1 2 ["self", "sign"] m_Off_ends := by
  have c := cc.1
  obtain ⟨fd, F⟩ := c.def_ 15 (d := dm_Off_ends) rfl
  have F : FunD K "ends" "Off.ends" (defArgs s_Off_ends) (defBody s_Off_ends) (defScope s_Off_ends) [] [] (He.ma K (He.ga K "Off") "ends") fd := F
  have S := sc_Off_ends
  refine goodM_mk (k := 0) (N := N_Off_ends) F (He.glo_ok X G (c.fact 26 (f := .glo "Off") rfl)) (He.cls_ok (c.fact 42 (f := .cls "Off") rfl)) (He.meth_ok (c.fact 51 (f := .meth "Off" "ends") rfl)) S rfl (fun _ _ _ _ _ _ us hl => match us, hl with | [_, _], _ => rfl) (fun base cdv A outer s H E G hr => ?_)
  have tk : Takes (cxOf (L2.CX P w) P w K mg base N_Off_ends "Off.ends" (defScope s_Off_ends) (He.ma K (He.ga K "Off") "ends") cdv A outer s H E) _ := takes_of rfl rfl rfl rfl
  have hu := hr.units
  exact (ss_one (ss_ret se_bl))
theorem GM_In_ends (cc : SaysN fa fn ex K) (X : K.In h) (G : h.Ns mainGlobals mg) : GoodM P w K mg "In" "ends" 1 2 ["self", "sign"] m_Way_ends := by
  have c := cc.1
  obtain ⟨fd, F⟩ := c.def_ 16 (d := dm_In_ends) rfl
  have F : FunD K "ends" "Way.ends" (defArgs s_Way_ends) (defBody s_Way_ends) (defScope s_Way_ends) [] [] (He.ma K (He.ga K "In") "ends") fd := F
  have S := sc_Way_ends
  refine goodM_mk (k := 0) (N := N_Way_ends) F (He.glo_ok X G (c.fact 14 (f := .glo "In") rfl)) (He.cls_ok (c.fact 40 (f := .cls "In") rfl)) (He.meth_ok (c.fact 52 (f := .meth "In" "ends") rfl)) S rfl (fun _ _ _ _ _ _ us hl => match us, hl with | [_, _], _ => rfl) (fun base cdv A outer s H E G hr => ?_)
  have tk : Takes (cxOf (L2.CX P w) P w K mg base N_Way_ends "Way.ends" (defScope s_Way_ends) (He.ma K (He.ga K "In") "ends") cdv A outer s H E) _ := takes_of rfl rfl rfl rfl
  have hu := hr.units
  exact (ss_one (ss_ret se_bl))
theorem GM_Up_ends (cc : SaysN fa fn ex K) (X : K.In h) (G : h.Ns mainGlobals mg) : GoodM P w K mg "Up" "ends" 1 2 ["self", "sign"] m_Up_ends := by
  have c := cc.1
  obtain ⟨fd, F⟩ := c.def_ 17 (d := dm_Up_ends) rfl
  have F : FunD K "ends" "Up.ends" (defArgs s_Up_ends) (defBody s_Up_ends) (defScope s_Up_ends) [] [] (He.ma K (He.ga K "Up") "ends") fd := F
  have S := sc_Up_ends
  refine goodM_mk (k := 0) (N := N_Up_ends) F (He.glo_ok X G (c.fact 27 (f := .glo "Up") rfl)) (He.cls_ok (c.fact 44 (f := .cls "Up") rfl)) (He.meth_ok (c.fact 53 (f := .meth "Up" "ends") rfl)) S rfl (fun _ _ _ _ _ _ us hl => match us, hl with | [_, _], _ => rfl) (fun base cdv A outer s H E G hr => ?_)
  have tk : Takes (cxOf (L2.CX P w) P w K mg base N_Up_ends "Up.ends" (defScope s_Up_ends) (He.ma K (He.ga K "Up") "ends") cdv A outer s H E) _ := takes_of rfl rfl rfl rfl
  have hu := hr.units
  exact (ss_one (ss_ret (se_eq hu (se_V 1) se_int)))
theorem GM_Down_ends (cc : SaysN fa fn ex K) (X : K.In h) (G : h.Ns mainGlobals mg) : GoodM P w K mg "Down" "ends" 1 2 ["self", "sign"] m_Down_ends := by
  have c := cc.1
  obtain ⟨fd, F⟩ := c.def_ 18 (d := dm_Down_ends) rfl
  have F : FunD K "ends" "Down.ends" (defArgs s_Down_ends) (defBody s_Down_ends) (defScope s_Down_ends) [] [] (He.ma K (He.ga K "Down") "ends") fd := F
  have S := sc_Down_ends
  refine goodM_mk (k := 0) (N := N_Down_ends) F (He.glo_ok X G (c.fact 11 (f := .glo "Down") rfl)) (He.cls_ok (c.fact 36 (f := .cls "Down") rfl)) (He.meth_ok (c.fact 54 (f := .meth "Down" "ends") rfl)) S rfl (fun _ _ _ _ _ _ us hl => match us, hl with | [_, _], _ => rfl) (fun base cdv A outer s H E G hr => ?_)
  have tk : Takes (cxOf (L2.CX P w) P w K mg base N_Down_ends "Down.ends" (defScope s_Down_ends) (He.ma K (He.ga K "Down") "ends") cdv A outer s H E) _ := takes_of rfl rfl rfl rfl
  have hu := hr.units
  exact (ss_one (ss_ret (se_eq hu (se_V 1) se_int)))
theorem G_way_of (cc : SaysN fa fn ex K) (X : K.In h) (G : h.Ns mainGlobals mg) : Good P w K mg "way_of" 1 1 ["word"] m_way_of [] := by
  have c := cc.1
  obtain ⟨fd, F⟩ := c.def_ 0 (d := d_way_of) rfl
  have F : FnQ K "way_of" s_way_of [] (He.ga K "way_of") fd := F
  have S := sc_way_of
  have g_Even : mg "Even" = some (.ref (He.ga K "Even")) := He.glo_ok X G (c.fact 12 (f := .glo "Even") rfl)
  have k_Even := cc.mk0 0 (x := "Even") rfl
  have g_Off : mg "Off" = some (.ref (He.ga K "Off")) := He.glo_ok X G (c.fact 26 (f := .glo "Off") rfl)
  have k_Off := cc.mk0 1 (x := "Off") rfl
  have g_In : mg "In" = some (.ref (He.ga K "In")) := He.glo_ok X G (c.fact 14 (f := .glo "In") rfl)
  have k_In := cc.mk0 2 (x := "In") rfl
  have g_Up : mg "Up" = some (.ref (He.ga K "Up")) := He.glo_ok X G (c.fact 27 (f := .glo "Up") rfl)
  have k_Up := cc.mk0 3 (x := "Up") rfl
  have g_Down : mg "Down" = some (.ref (He.ga K "Down")) := He.glo_ok X G (c.fact 11 (f := .glo "Down") rfl)
  have k_Down := cc.mk0 4 (x := "Down") rfl
  have g_NoWay : mg "NoWay" = some (.ref (He.ga K "NoWay")) := He.glo_ok X G (c.fact 9 (f := .glo "NoWay") rfl)
  have x_NoWay := c.fact 10 (f := .exc "NoWay") rfl
  refine good_mk (k := 0) (N := N_way_of) F (He.glo_ok X G (c.fact 0 (f := .glo "way_of") rfl)) S rfl (fun _ _ _ _ _ _ us hl => match us, hl with | [_], _ => rfl) (fun base cdv A outer s H E G hr => ?_)
  have tk : Takes (cxOf (L2.CX P w) P w K mg base N_way_of "way_of" (defScope s_way_of) (He.ga K "way_of") cdv A outer s H E) _ := takes_of rfl rfl rfl rfl
  have hp : PassesOwn (model P w) _ _ (cxOf (L2.CX P w) P w K mg base N_way_of "way_of" (defScope s_way_of) (He.ga K "way_of") cdv A outer s H E).xe := passes_of rfl
  have hu := hr.units
  exact (ss_cons (ss_if (st_eq hu (se_V 0) se_str) (ss_one (ss_ret (se_new0 k_Even g_Even))) ss_nil)
      (ss_cons (ss_if (st_eq hu (se_V 0) se_str) (ss_one (ss_ret (se_new0 k_Off g_Off))) ss_nil)
      (ss_cons (ss_if (st_eq hu (se_V 0) se_str) (ss_one (ss_ret (se_new0 k_In g_In))) ss_nil)
      (ss_cons (ss_if (st_eq hu (se_V 0) se_str) (ss_one (ss_ret (se_new0 k_Up g_Up))) ss_nil)
      (ss_cons (ss_if (st_eq hu (se_V 0) se_str) (ss_one (ss_ret (se_new0 k_Down g_Down))) ss_nil)
      (ss_one (ss_raiseF rfl tk g_NoWay x_NoWay)))))))
theorem G__law_cell (cc : SaysN fa fn ex K) (X : K.In h) (G : h.Ns mainGlobals mg) : Good P w K mg "_law_cell" 1 2 ["_law_script", "_law_k"] m_L_cell_41e6 [] := by
  have c := cc.1
  obtain ⟨fd, F⟩ := c.def_ 1 (d := d__law_cell) rfl
  have F : FnQ K "_law_cell" s__law_cell [] (He.ga K "_law_cell") fd := F
  have S := sc__law_cell
  have z_len : mg "len" = none := He.free_ok X G (c.fact 33 (f := .free "len") rfl)
  refine good_mk (k := 0) (N := N__law_cell) F (He.glo_ok X G (c.fact 1 (f := .glo "_law_cell") rfl)) S rfl (fun _ _ _ _ _ _ us hl => match us, hl with | [_, _], _ => rfl) (fun base cdv A outer s H E G hr => ?_)
  have tk : Takes (cxOf (L2.CX P w) P w K mg base N__law_cell "_law_cell" (defScope s__law_cell) (He.ga K "_law_cell") cdv A outer s H E) _ := takes_of rfl rfl rfl rfl
  have hp : PassesOwn (model P w) _ _ (cxOf (L2.CX P w) P w K mg base N__law_cell "_law_cell" (defScope s__law_cell) (He.ga K "_law_cell") cdv A outer s H E).xe := passes_of rfl
  have hu := hr.units
  exact (ss_cons (ss_if (st_lt (se_V 1) (se_len rfl z_len (sa_cons (se_V 0) sa_nil))) (ss_one (ss_ret (se_ix (se_V 0) (se_V 1)))) ss_nil)
      (ss_one (ss_ret se_int)))
theorem G__law_goes (cc : SaysN fa fn ex K) (X : K.In h) (G : h.Ns mainGlobals mg) : Good P w K mg "_law_goes" 1 4 ["_law_word", "_law_sign", "_law_odd", "_law_side"] m_L_goes_51bd [] := by
  have c := cc.1
  obtain ⟨fd, F⟩ := c.def_ 2 (d := d__law_goes) rfl
  have F : FnQ K "_law_goes" s__law_goes [] (He.ga K "_law_goes") fd := F
  have S := sc__law_goes
  refine good_mk (k := 0) (N := N__law_goes) F (He.glo_ok X G (c.fact 2 (f := .glo "_law_goes") rfl)) S rfl (fun _ _ _ _ _ _ us hl => match us, hl with | [_, _, _, _], _ => rfl) (fun base cdv A outer s H E G hr => ?_)
  have tk : Takes (cxOf (L2.CX P w) P w K mg base N__law_goes "_law_goes" (defScope s__law_goes) (He.ga K "_law_goes") cdv A outer s H E) _ := takes_of rfl rfl rfl rfl
  have hp : PassesOwn (model P w) _ _ (cxOf (L2.CX P w) P w K mg base N__law_goes "_law_goes" (defScope s__law_goes) (He.ga K "_law_goes") cdv A outer s H E).xe := passes_of rfl
  have hu := hr.units
  exact (ss_cons (ss_if (st_eq hu (se_V 0) se_str) (ss_one (ss_ret (se_orB (se_eq hu (se_V 3) se_int) (se_one (se_andB (se_eq hu (se_V 3) se_int) (se_one (se_V 2))))))) ss_nil)
      (ss_cons (ss_if (st_eq hu (se_V 0) se_str) (ss_one (ss_ret (se_ne hu (se_V 3) (se_neg se_int)))) ss_nil)
      (ss_cons (ss_if (st_eq hu (se_V 0) se_str) (ss_one (ss_ret (se_eq hu (se_V 1) se_int))) ss_nil)
      (ss_one (ss_ret (se_andB (se_eq hu (se_V 0) se_str) (se_one (se_eq hu (se_V 1) se_int))))))))
theorem G__law_ends (cc : SaysN fa fn ex K) (X : K.In h) (G : h.Ns mainGlobals mg) : Good P w K mg "_law_ends" 1 2 ["_law_word", "_law_sign"] m_L_ends_8cc6 [] := by
  have c := cc.1
  obtain ⟨fd, F⟩ := c.def_ 3 (d := d__law_ends) rfl
  have F : FnQ K "_law_ends" s__law_ends [] (He.ga K "_law_ends") fd := F
  have S := sc__law_ends
  refine good_mk (k := 0) (N := N__law_ends) F (He.glo_ok X G (c.fact 3 (f := .glo "_law_ends") rfl)) S rfl (fun _ _ _ _ _ _ us hl => match us, hl with | [_, _], _ => rfl) (fun base cdv A outer s H E G hr => ?_)
  have tk : Takes (cxOf (L2.CX P w) P w K mg base N__law_ends "_law_ends" (defScope s__law_ends) (He.ga K "_law_ends") cdv A outer s H E) _ := takes_of rfl rfl rfl rfl
  have hp : PassesOwn (model P w) _ _ (cxOf (L2.CX P w) P w K mg base N__law_ends "_law_ends" (defScope s__law_ends) (He.ga K "_law_ends") cdv A outer s H E).xe := passes_of rfl
  have hu := hr.units
  exact (ss_cons (ss_if (st_eq hu (se_V 0) se_str) (ss_one (ss_ret (se_eq hu (se_V 1) se_int))) ss_nil)
      (ss_cons (ss_if (st_eq hu (se_V 0) se_str) (ss_one (ss_ret (se_eq hu (se_V 1) se_int))) ss_nil)
      (ss_one (ss_ret (se_ne hu (se_V 0) se_str)))))
theorem G__law_as_told (cc : SaysN fa fn ex K) (X : K.In h) (G : h.Ns mainGlobals mg) : Good P w K mg "_law_as_told" 2 5 ["_law_way", "_law_word", "_law_sign", "_law_odd", "_law_side"] m_L_as_told_0ce8 [] := by
  have c := cc.1
  obtain ⟨fd, F⟩ := c.def_ 4 (d := d__law_as_told) rfl
  have F : FnQ K "_law_as_told" s__law_as_told [] (He.ga K "_law_as_told") fd := F
  have S := sc__law_as_told
  have G__law_goes := G__law_goes (P := P) (w := w) cc X G
  have G__law_ends := G__law_ends (P := P) (w := w) cc X G
  have G_Even_goes_on := GM_Even_goes_on (P := P) (w := w) cc X G
  have G_Off_goes_on := GM_Off_goes_on (P := P) (w := w) cc X G
  have G_In_goes_on := GM_In_goes_on (P := P) (w := w) cc X G
  have G_Up_goes_on := GM_Up_goes_on (P := P) (w := w) cc X G
  have G_Down_goes_on := GM_Down_goes_on (P := P) (w := w) cc X G
  have G_Even_ends := GM_Even_ends (P := P) (w := w) cc X G
  have G_Off_ends := GM_Off_ends (P := P) (w := w) cc X G
  have G_In_ends := GM_In_ends (P := P) (w := w) cc X G
  have G_Up_ends := GM_Up_ends (P := P) (w := w) cc X G
  have G_Down_ends := GM_Down_ends (P := P) (w := w) cc X G
  have z_bool : mg "bool" = none := He.free_ok X G (c.fact 31 (f := .free "bool") rfl)
  have z_isinstance : mg "isinstance" = none := He.free_ok X G (c.fact 32 (f := .free "isinstance") rfl)
  have g_Down : mg "Down" = some (.ref (He.ga K "Down")) := He.glo_ok X G (c.fact 11 (f := .glo "Down") rfl)
  have g_Even : mg "Even" = some (.ref (He.ga K "Even")) := He.glo_ok X G (c.fact 12 (f := .glo "Even") rfl)
  have g_In : mg "In" = some (.ref (He.ga K "In")) := He.glo_ok X G (c.fact 14 (f := .glo "In") rfl)
  have g_Off : mg "Off" = some (.ref (He.ga K "Off")) := He.glo_ok X G (c.fact 26 (f := .glo "Off") rfl)
  have g_Up : mg "Up" = some (.ref (He.ga K "Up")) := He.glo_ok X G (c.fact 27 (f := .glo "Up") rfl)
  have g_Way : mg "Way" = some (.ref (He.ga K "Way")) := He.glo_ok X G (c.fact 28 (f := .glo "Way") rfl)
  have i_Down := chkIC_ok (He.cls_ok (c.fact 36 (f := .cls "Down") rfl)) (cc.gen 36 (f := chkIC "Down") rfl)
  have i_Even := chkIC_ok (He.cls_ok (c.fact 38 (f := .cls "Even") rfl)) (cc.gen 37 (f := chkIC "Even") rfl)
  have i_In := chkIC_ok (He.cls_ok (c.fact 40 (f := .cls "In") rfl)) (cc.gen 38 (f := chkIC "In") rfl)
  have i_Off := chkIC_ok (He.cls_ok (c.fact 42 (f := .cls "Off") rfl)) (cc.gen 39 (f := chkIC "Off") rfl)
  have i_Up := chkIC_ok (He.cls_ok (c.fact 44 (f := .cls "Up") rfl)) (cc.gen 40 (f := chkIC "Up") rfl)
  have k_Down_Way := cc.kix 11 (x := "Down") (y := "Way") (b := true) rfl
  have k_Even_Way := cc.kix 17 (x := "Even") (y := "Way") (b := true) rfl
  have k_In_Way := cc.kix 23 (x := "In") (y := "Way") (b := true) rfl
  have k_Off_Way := cc.kix 29 (x := "Off") (y := "Way") (b := true) rfl
  have k_Up_Way := cc.kix 35 (x := "Up") (y := "Way") (b := true) rfl
  refine good_mk (k := 1) (N := N__law_as_told) F (He.glo_ok X G (c.fact 4 (f := .glo "_law_as_told") rfl)) S rfl (fun _ _ _ _ _ _ us hl => match us, hl with | [_, _, _, _, _], _ => rfl) (fun base cdv A outer s H E G hr => ?_)
  have tk : Takes (cxOf (L2.CX P w) P w K mg base N__law_as_told "_law_as_told" (defScope s__law_as_told) (He.ga K "_law_as_told") cdv A outer s H E) _ := takes_of rfl rfl rfl rfl
  have hp : PassesOwn (model P w) _ _ (cxOf (L2.CX P w) P w K mg base N__law_as_told "_law_as_told" (defScope s__law_as_told) (He.ga K "_law_as_told") cdv A outer s H E).xe := passes_of rfl
  have hu := hr.units
  exact (ss_cons (ss_if (st_not (st_tru (se_isn rfl z_isinstance rfl g_Way (all_cons ⟨_, g_Even, i_Even, k_Even_Way⟩ (all_cons ⟨_, g_Off, i_Off, k_Off_Way⟩ (all_cons ⟨_, g_In, i_In, k_In_Way⟩ (all_cons ⟨_, g_Up, i_Up, k_Up_Way⟩ (all_cons ⟨_, g_Down, i_Down, k_Down_Way⟩ all_nil))))) (se_V 0)))) (ss_one (ss_ret se_bl)) ss_nil)
      (ss_cons (ss_set 5 S.nd (se_meth (tbl := t_goes_on) (se_V 0) (all_cons G_Even_goes_on (all_cons G_Off_goes_on (all_cons G_In_goes_on (all_cons G_Up_goes_on (all_cons G_Down_goes_on all_nil))))) (fun z => nomatch z) hr tk (ha := (sa_cons (se_V 2) (sa_cons (se_V 3) (sa_cons (se_V 4) sa_nil)))) (hnp := (all_cons (fun _ h => if_neg h) (all_cons (fun _ h => if_neg h) (all_cons (fun _ h => if_neg h) (all_cons (fun _ h => if_neg h) (all_cons (fun _ h => if_neg h) all_nil))))))))
      (ss_cons (ss_if (PW.pt (sw_or (st_not (st_tru (se_isi rfl z_isinstance rfl z_bool (by decide +kernel) (se_V 5)))) (sw_one (st_ne hu (se_V 5) (se_f G__law_goes hr tk (ha := (sa_cons (se_V 1) (sa_cons (se_V 2) (sa_cons (se_V 3) (sa_cons (se_V 4) sa_nil))))))) (.inr rfl)))) (ss_one (ss_ret se_bl)) ss_nil)
      (ss_cons (ss_set 5 S.nd (se_meth (tbl := t_ends) (se_V 0) (all_cons G_Even_ends (all_cons G_Off_ends (all_cons G_In_ends (all_cons G_Up_ends (all_cons G_Down_ends all_nil))))) (fun z => nomatch z) hr tk (ha := (sa_cons (se_V 2) sa_nil)) (hnp := (all_cons (fun _ h => if_neg h) (all_cons (fun _ h => if_neg h) (all_cons (fun _ h => if_neg h) (all_cons (fun _ h => if_neg h) (all_cons (fun _ h => if_neg h) all_nil))))))))
      (ss_one (ss_ret (se_andB (se_isi rfl z_isinstance rfl z_bool (by decide +kernel) (se_V 5)) (se_one (se_eq hu (se_V 5) (se_f G__law_ends hr tk (ha := (sa_cons (se_V 1) (sa_cons (se_V 2) sa_nil)))))))))))))
theorem G__law_made (cc : SaysN fa fn ex K) (X : K.In h) (G : h.Ns mainGlobals mg) : Good P w K mg "_law_made" 2 2 ["_law_script", "_law_words"] m_L_made_9a41 [] := by
  have c := cc.1
  obtain ⟨fd, F⟩ := c.def_ 5 (d := d__law_made) rfl
  have F : FnQ K "_law_made" s__law_made [] (He.ga K "_law_made") fd := F
  have S := sc__law_made
  have G__law_cell := G__law_cell (P := P) (w := w) cc X G
  have z_len : mg "len" = none := He.free_ok X G (c.fact 33 (f := .free "len") rfl)
  refine good_mk (k := 1) (N := N__law_made) F (He.glo_ok X G (c.fact 5 (f := .glo "_law_made") rfl)) S rfl (fun _ _ _ _ _ _ us hl => match us, hl with | [_, _], _ => rfl) (fun base cdv A outer s H E G hr => ?_)
  have tk : Takes (cxOf (L2.CX P w) P w K mg base N__law_made "_law_made" (defScope s__law_made) (He.ga K "_law_made") cdv A outer s H E) _ := takes_of rfl rfl rfl rfl
  have hp : PassesOwn (model P w) _ _ (cxOf (L2.CX P w) P w K mg base N__law_made "_law_made" (defScope s__law_made) (He.ga K "_law_made") cdv A outer s H E).xe := passes_of rfl
  have hu := hr.units
  exact (ss_cons (ss_set 2 S.nd (se_ix (se_V 1) (se_mod (se_f G__law_cell hr tk (ha := (sa_cons (se_V 0) (sa_cons se_int sa_nil)))) se_int)))
      (ss_cons (ss_set 3 S.nd (se_mod (se_f G__law_cell hr tk (ha := (sa_cons (se_V 0) (sa_cons se_int sa_nil)))) (se_add (se_len rfl z_len (sa_cons (se_V 2) sa_nil)) se_int)))
      (ss_cons (ss_set 4 S.nd (se_add (se_mulS se_str se_int) se_str))
      (ss_cons (ss_set 4 S.nd (se_add (se_V 4) se_str))
      (ss_cons (ss_set 5 S.nd (se_ix (se_V 4) (se_mod (se_f G__law_cell hr tk (ha := (sa_cons (se_V 0) (sa_cons se_int sa_nil)))) (se_len rfl z_len (sa_cons (se_V 4) sa_nil)))))
      (ss_cons (ss_set 6 S.nd (se_mod (se_f G__law_cell hr tk (ha := (sa_cons (se_V 0) (sa_cons se_int sa_nil)))) se_int))
      (ss_cons (ss_if (st_eq hu (se_V 6) se_int) (ss_one (ss_ret (se_add (se_add (se_slN sl_str slG_S (se_V 2) (se_V 3)) (se_V 5)) (se_slS sl_str slG_S (se_V 2) (se_V 3))))) ss_nil)
      (ss_cons (ss_if (st_eq hu (se_V 6) se_int) (ss_one (ss_ret (se_add (se_slN sl_str slG_S (se_V 2) (se_V 3)) (se_slS sl_str slG_S (se_V 2) (se_add (se_V 3) se_int))))) ss_nil)
      (ss_one (ss_ret (se_add (se_add (se_slN sl_str slG_S (se_V 2) (se_V 3)) (se_V 5)) (se_slS sl_str slG_S (se_V 2) (se_add (se_V 3) se_int)))))))))))))
theorem G__law_refused (cc : SaysN fa fn ex K) (X : K.In h) (G : h.Ns mainGlobals mg) : Good P w K mg "_law_refused" 2 1 ["_law_thing"] m_L_refused_3790 [] := by
  have c := cc.1
  obtain ⟨fd, F⟩ := c.def_ 6 (d := d__law_refused) rfl
  have F : FnQ K "_law_refused" s__law_refused [] (He.ga K "_law_refused") fd := F
  have S := sc__law_refused
  have G_way_of := G_way_of (P := P) (w := w) cc X G
  have z_ValueError : mg "ValueError" = none := He.free_ok X G (c.fact 30 (f := .free "ValueError") rfl)
  have z_isinstance : mg "isinstance" = none := He.free_ok X G (c.fact 32 (f := .free "isinstance") rfl)
  have g_FoldError : mg "FoldError" = some (.ref (He.ga K "FoldError")) := He.glo_ok X G (c.fact 13 (f := .glo "FoldError") rfl)
  have g_NoBits : mg "NoBits" = some (.ref (He.ga K "NoBits")) := He.glo_ok X G (c.fact 15 (f := .glo "NoBits") rfl)
  have g_NoFlags : mg "NoFlags" = some (.ref (He.ga K "NoFlags")) := He.glo_ok X G (c.fact 16 (f := .glo "NoFlags") rfl)
  have g_NoName : mg "NoName" = some (.ref (He.ga K "NoName")) := He.glo_ok X G (c.fact 17 (f := .glo "NoName") rfl)
  have g_NoNumber : mg "NoNumber" = some (.ref (He.ga K "NoNumber")) := He.glo_ok X G (c.fact 18 (f := .glo "NoNumber") rfl)
  have g_NoParts : mg "NoParts" = some (.ref (He.ga K "NoParts")) := He.glo_ok X G (c.fact 19 (f := .glo "NoParts") rfl)
  have g_NoRow : mg "NoRow" = some (.ref (He.ga K "NoRow")) := He.glo_ok X G (c.fact 20 (f := .glo "NoRow") rfl)
  have g_NoShape : mg "NoShape" = some (.ref (He.ga K "NoShape")) := He.glo_ok X G (c.fact 21 (f := .glo "NoShape") rfl)
  have g_NoStep : mg "NoStep" = some (.ref (He.ga K "NoStep")) := He.glo_ok X G (c.fact 22 (f := .glo "NoStep") rfl)
  have g_NoText : mg "NoText" = some (.ref (He.ga K "NoText")) := He.glo_ok X G (c.fact 23 (f := .glo "NoText") rfl)
  have g_NoWay : mg "NoWay" = some (.ref (He.ga K "NoWay")) := He.glo_ok X G (c.fact 9 (f := .glo "NoWay") rfl)
  have g_NoWhole : mg "NoWhole" = some (.ref (He.ga K "NoWhole")) := He.glo_ok X G (c.fact 24 (f := .glo "NoWhole") rfl)
  have g_NoWord : mg "NoWord" = some (.ref (He.ga K "NoWord")) := He.glo_ok X G (c.fact 25 (f := .glo "NoWord") rfl)
  have q_NoWay_FoldError := He.exm_ok (c.fact 29 (f := .exm "NoWay" "FoldError" true) rfl)
  have e_NoWay := cc.exo 5 (x := "NoWay") rfl
  have k_NoWay_NoBits := cc.kix 41 (x := "NoWay") (y := "NoBits") (b := false) rfl
  have k_NoWay_NoFlags := cc.kix 42 (x := "NoWay") (y := "NoFlags") (b := false) rfl
  have k_NoWay_NoName := cc.kix 43 (x := "NoWay") (y := "NoName") (b := false) rfl
  have k_NoWay_NoNumber := cc.kix 44 (x := "NoWay") (y := "NoNumber") (b := false) rfl
  have k_NoWay_NoParts := cc.kix 45 (x := "NoWay") (y := "NoParts") (b := false) rfl
  have k_NoWay_NoRow := cc.kix 46 (x := "NoWay") (y := "NoRow") (b := false) rfl
  have k_NoWay_NoShape := cc.kix 47 (x := "NoWay") (y := "NoShape") (b := false) rfl
  have k_NoWay_NoStep := cc.kix 48 (x := "NoWay") (y := "NoStep") (b := false) rfl
  have k_NoWay_NoText := cc.kix 49 (x := "NoWay") (y := "NoText") (b := false) rfl
  have k_NoWay_NoWay := cc.kix 50 (x := "NoWay") (y := "NoWay") (b := true) rfl
  have k_NoWay_NoWhole := cc.kix 51 (x := "NoWay") (y := "NoWhole") (b := false) rfl
  have k_NoWay_NoWord := cc.kix 52 (x := "NoWay") (y := "NoWord") (b := false) rfl
  have k_NoWay_ValueError := cc.kib 53 (x := "NoWay") (t := "ValueError") (b := true) rfl
  refine good_mk (k := 1) (N := N__law_refused) F (He.glo_ok X G (c.fact 6 (f := .glo "_law_refused") rfl)) S rfl (fun _ _ _ _ _ _ us hl => match us, hl with | [_], _ => rfl) (fun base cdv A outer s H E G hr => ?_)
  have tk : Takes (cxOf (L2.CX P w) P w K mg base N__law_refused "_law_refused" (defScope s__law_refused) (He.ga K "_law_refused") cdv A outer s H E) _ := takes_of rfl rfl rfl rfl
  have hp : PassesOwn (model P w) _ _ (cxOf (L2.CX P w) P w K mg base N__law_refused "_law_refused" (defScope s__law_refused) (He.ga K "_law_refused") cdv A outer s H E).xe := passes_of rfl
  have hu := hr.units
  exact (ss_cons (ss_set 1 S.nd se_non)
      (ss_cons (ss_try (i := 2) rfl rfl rfl S.nd rfl rfl ⟨rfl, by decide, .inl g_FoldError⟩ tk (all_cons ⟨_, g_NoWay, q_NoWay_FoldError⟩ all_nil) (fun W pn xe tk hp => (ss_one (ss_drop (se_f G_way_of hr tk (ha := (sa_cons (se_V 0) sa_nil)))))) (fun a pn => (ss_one (ss_set 1 S.nd (se_V 2)))))
      (ss_cons (ss_set 3 S.nd (se_isxT rfl z_isinstance (pcl_cons rfl g_NoBits (pcl_cons rfl g_NoFlags (pcl_cons rfl g_NoName (pcl_cons rfl g_NoNumber (pcl_cons rfl g_NoParts (pcl_cons rfl g_NoRow (pcl_cons rfl g_NoShape (pcl_cons rfl g_NoStep pcl_nil)))))))) (by simp only [List.length_cons, List.length_nil]; decide) (all_cons ⟨_, g_NoWay, e_NoWay, (kany_f k_NoWay_NoBits (kany_f k_NoWay_NoFlags (kany_f k_NoWay_NoName (kany_f k_NoWay_NoNumber (kany_f k_NoWay_NoParts (kany_f k_NoWay_NoRow (kany_f k_NoWay_NoShape (kany_f k_NoWay_NoStep kany_nil))))))))⟩ all_nil) (se_V 1)))
      (ss_cons (ss_if (PW.pt (sw_or (st_tru (se_V 3)) (sw_one (st_tru (se_isxT rfl z_isinstance (pcl_cons rfl g_NoText (pcl_cons rfl g_NoWhole (pcl_cons rfl g_NoWord pcl_nil))) (by simp only [List.length_cons, List.length_nil]; decide) (all_cons ⟨_, g_NoWay, e_NoWay, (kany_f k_NoWay_NoText (kany_f k_NoWay_NoWhole (kany_f k_NoWay_NoWord kany_nil)))⟩ all_nil) (se_V 1))) (.inr rfl)))) (ss_one (ss_ret se_bl)) ss_nil)
      (ss_one (ss_ret (se_andB (se_isxO rfl z_isinstance rfl g_NoWay (all_cons ⟨_, g_NoWay, e_NoWay, k_NoWay_NoWay⟩ all_nil) (se_V 1)) (se_one (se_isxB rfl z_isinstance rfl z_ValueError (by decide +kernel) (all_cons ⟨_, g_NoWay, e_NoWay, k_NoWay_ValueError⟩ all_nil) (se_V 1))))))))))
theorem G__law_kinds (cc : SaysN fa fn ex K) (X : K.In h) (G : h.Ns mainGlobals mg) : Good P w K mg "_law_kinds" 2 0 [] m_L_kinds_28cb [] := by
  have c := cc.1
  obtain ⟨fd, F⟩ := c.def_ 7 (d := d__law_kinds) rfl
  have F : FnQ K "_law_kinds" s__law_kinds [] (He.ga K "_law_kinds") fd := F
  have S := sc__law_kinds
  have G_way_of := G_way_of (P := P) (w := w) cc X G
  have z_isinstance : mg "isinstance" = none := He.free_ok X G (c.fact 32 (f := .free "isinstance") rfl)
  have g_Down : mg "Down" = some (.ref (He.ga K "Down")) := He.glo_ok X G (c.fact 11 (f := .glo "Down") rfl)
  have g_Even : mg "Even" = some (.ref (He.ga K "Even")) := He.glo_ok X G (c.fact 12 (f := .glo "Even") rfl)
  have g_In : mg "In" = some (.ref (He.ga K "In")) := He.glo_ok X G (c.fact 14 (f := .glo "In") rfl)
  have g_Off : mg "Off" = some (.ref (He.ga K "Off")) := He.glo_ok X G (c.fact 26 (f := .glo "Off") rfl)
  have g_Up : mg "Up" = some (.ref (He.ga K "Up")) := He.glo_ok X G (c.fact 27 (f := .glo "Up") rfl)
  have i_Down := chkIC_ok (He.cls_ok (c.fact 36 (f := .cls "Down") rfl)) (cc.gen 36 (f := chkIC "Down") rfl)
  have i_Even := chkIC_ok (He.cls_ok (c.fact 38 (f := .cls "Even") rfl)) (cc.gen 37 (f := chkIC "Even") rfl)
  have i_In := chkIC_ok (He.cls_ok (c.fact 40 (f := .cls "In") rfl)) (cc.gen 38 (f := chkIC "In") rfl)
  have i_Off := chkIC_ok (He.cls_ok (c.fact 42 (f := .cls "Off") rfl)) (cc.gen 39 (f := chkIC "Off") rfl)
  have i_Up := chkIC_ok (He.cls_ok (c.fact 44 (f := .cls "Up") rfl)) (cc.gen 40 (f := chkIC "Up") rfl)
  have k_Down_Down := cc.kix 6 (x := "Down") (y := "Down") (b := true) rfl
  have k_Down_Even := cc.kix 7 (x := "Down") (y := "Even") (b := false) rfl
  have k_Down_In := cc.kix 8 (x := "Down") (y := "In") (b := false) rfl
  have k_Down_Off := cc.kix 9 (x := "Down") (y := "Off") (b := false) rfl
  have k_Down_Up := cc.kix 10 (x := "Down") (y := "Up") (b := false) rfl
  have k_Even_Down := cc.kix 12 (x := "Even") (y := "Down") (b := false) rfl
  have k_Even_Even := cc.kix 13 (x := "Even") (y := "Even") (b := true) rfl
  have k_Even_In := cc.kix 14 (x := "Even") (y := "In") (b := false) rfl
  have k_Even_Off := cc.kix 15 (x := "Even") (y := "Off") (b := false) rfl
  have k_Even_Up := cc.kix 16 (x := "Even") (y := "Up") (b := false) rfl
  have k_In_Down := cc.kix 18 (x := "In") (y := "Down") (b := false) rfl
  have k_In_Even := cc.kix 19 (x := "In") (y := "Even") (b := false) rfl
  have k_In_In := cc.kix 20 (x := "In") (y := "In") (b := true) rfl
  have k_In_Off := cc.kix 21 (x := "In") (y := "Off") (b := false) rfl
  have k_In_Up := cc.kix 22 (x := "In") (y := "Up") (b := false) rfl
  have k_Off_Down := cc.kix 24 (x := "Off") (y := "Down") (b := false) rfl
  have k_Off_Even := cc.kix 25 (x := "Off") (y := "Even") (b := false) rfl
  have k_Off_In := cc.kix 26 (x := "Off") (y := "In") (b := false) rfl
  have k_Off_Off := cc.kix 27 (x := "Off") (y := "Off") (b := true) rfl
  have k_Off_Up := cc.kix 28 (x := "Off") (y := "Up") (b := false) rfl
  have k_Up_Down := cc.kix 30 (x := "Up") (y := "Down") (b := false) rfl
  have k_Up_Even := cc.kix 31 (x := "Up") (y := "Even") (b := false) rfl
  have k_Up_In := cc.kix 32 (x := "Up") (y := "In") (b := false) rfl
  have k_Up_Off := cc.kix 33 (x := "Up") (y := "Off") (b := false) rfl
  have k_Up_Up := cc.kix 34 (x := "Up") (y := "Up") (b := true) rfl
  refine good_mk (k := 1) (N := N__law_kinds) F (He.glo_ok X G (c.fact 7 (f := .glo "_law_kinds") rfl)) S rfl (fun _ _ _ _ _ _ us hl => match us, hl with | [], _ => rfl) (fun base cdv A outer s H E G hr => ?_)
  have tk : Takes (cxOf (L2.CX P w) P w K mg base N__law_kinds "_law_kinds" (defScope s__law_kinds) (He.ga K "_law_kinds") cdv A outer s H E) _ := takes_of rfl rfl rfl rfl
  have hp : PassesOwn (model P w) _ _ (cxOf (L2.CX P w) P w K mg base N__law_kinds "_law_kinds" (defScope s__law_kinds) (He.ga K "_law_kinds") cdv A outer s H E).xe := passes_of rfl
  have hu := hr.units
  exact (ss_cons (ss_if (PW.pt (sw_or (st_not (st_tru (se_isn rfl z_isinstance rfl g_Even (all_cons ⟨_, g_Even, i_Even, k_Even_Even⟩ (all_cons ⟨_, g_Off, i_Off, k_Off_Even⟩ (all_cons ⟨_, g_In, i_In, k_In_Even⟩ (all_cons ⟨_, g_Up, i_Up, k_Up_Even⟩ (all_cons ⟨_, g_Down, i_Down, k_Down_Even⟩ all_nil))))) (se_f G_way_of hr tk (ha := (sa_cons se_str sa_nil)))))) (sw_one (st_not (st_tru (se_isn rfl z_isinstance rfl g_Off (all_cons ⟨_, g_Even, i_Even, k_Even_Off⟩ (all_cons ⟨_, g_Off, i_Off, k_Off_Off⟩ (all_cons ⟨_, g_In, i_In, k_In_Off⟩ (all_cons ⟨_, g_Up, i_Up, k_Up_Off⟩ (all_cons ⟨_, g_Down, i_Down, k_Down_Off⟩ all_nil))))) (se_f G_way_of hr tk (ha := (sa_cons se_str sa_nil)))))) (.inr rfl)))) (ss_one (ss_ret se_bl)) ss_nil)
      (ss_cons (ss_if (PW.pt (sw_or (st_not (st_tru (se_isn rfl z_isinstance rfl g_In (all_cons ⟨_, g_Even, i_Even, k_Even_In⟩ (all_cons ⟨_, g_Off, i_Off, k_Off_In⟩ (all_cons ⟨_, g_In, i_In, k_In_In⟩ (all_cons ⟨_, g_Up, i_Up, k_Up_In⟩ (all_cons ⟨_, g_Down, i_Down, k_Down_In⟩ all_nil))))) (se_f G_way_of hr tk (ha := (sa_cons se_str sa_nil)))))) (sw_one (st_not (st_tru (se_isn rfl z_isinstance rfl g_Up (all_cons ⟨_, g_Even, i_Even, k_Even_Up⟩ (all_cons ⟨_, g_Off, i_Off, k_Off_Up⟩ (all_cons ⟨_, g_In, i_In, k_In_Up⟩ (all_cons ⟨_, g_Up, i_Up, k_Up_Up⟩ (all_cons ⟨_, g_Down, i_Down, k_Down_Up⟩ all_nil))))) (se_f G_way_of hr tk (ha := (sa_cons se_str sa_nil)))))) (.inr rfl)))) (ss_one (ss_ret se_bl)) ss_nil)
      (ss_one (ss_ret (se_isn rfl z_isinstance rfl g_Down (all_cons ⟨_, g_Even, i_Even, k_Even_Down⟩ (all_cons ⟨_, g_Off, i_Off, k_Off_Down⟩ (all_cons ⟨_, g_In, i_In, k_In_Down⟩ (all_cons ⟨_, g_Up, i_Up, k_Up_Down⟩ (all_cons ⟨_, g_Down, i_Down, k_Down_Down⟩ all_nil))))) (se_f G_way_of hr tk (ha := (sa_cons se_str sa_nil))))))))
theorem G_law (cc : SaysN fa fn ex K) (X : K.In h) (G : h.Ns mainGlobals mg) : Good P w K mg "law" 3 1 ["_law_script"] m_law_k21 [] := by
  have c := cc.1
  obtain ⟨fd, F⟩ := c.def_ 8 (d := d_law) rfl
  have F : FnQ K "law" s_law [] (He.ga K "law") fd := F
  have S := sc_law
  have G__law_cell := G__law_cell (P := P) (w := w) cc X G
  have G__law_as_told := G__law_as_told (P := P) (w := w) cc X G
  have G__law_made := G__law_made (P := P) (w := w) cc X G
  have G__law_refused := G__law_refused (P := P) (w := w) cc X G
  have G__law_kinds := G__law_kinds (P := P) (w := w) cc X G
  have G_way_of := G_way_of (P := P) (w := w) cc X G
  have g_Down : mg "Down" = some (.ref (He.ga K "Down")) := He.glo_ok X G (c.fact 11 (f := .glo "Down") rfl)
  have k_Down := cc.mk0 4 (x := "Down") rfl
  have g_Up : mg "Up" = some (.ref (He.ga K "Up")) := He.glo_ok X G (c.fact 27 (f := .glo "Up") rfl)
  have k_Up := cc.mk0 3 (x := "Up") rfl
  have g_In : mg "In" = some (.ref (He.ga K "In")) := He.glo_ok X G (c.fact 14 (f := .glo "In") rfl)
  have k_In := cc.mk0 2 (x := "In") rfl
  have g_Off : mg "Off" = some (.ref (He.ga K "Off")) := He.glo_ok X G (c.fact 26 (f := .glo "Off") rfl)
  have k_Off := cc.mk0 1 (x := "Off") rfl
  have g_Even : mg "Even" = some (.ref (He.ga K "Even")) := He.glo_ok X G (c.fact 12 (f := .glo "Even") rfl)
  have k_Even := cc.mk0 0 (x := "Even") rfl
  have z_range : mg "range" = none := He.free_ok X G (c.fact 34 (f := .free "range") rfl)
  refine good_mk (k := 2) (N := N_law) F (He.glo_ok X G (c.fact 8 (f := .glo "law") rfl)) S rfl (fun _ _ _ _ _ _ us hl => match us, hl with | [_], _ => rfl) (fun base cdv A outer s H E G hr => ?_)
  have tk : Takes (cxOf (L2.CX P w) P w K mg base N_law "law" (defScope s_law) (He.ga K "law") cdv A outer s H E) _ := takes_of rfl rfl rfl rfl
  have hp : PassesOwn (model P w) _ _ (cxOf (L2.CX P w) P w K mg base N_law "law" (defScope s_law) (He.ga K "law") cdv A outer s H E).xe := passes_of rfl
  have hu := hr.units
  exact (ss_cons (ss_set 1 S.nd (se_mod (se_f G__law_cell hr tk (ha := (sa_cons (se_V 0) (sa_cons se_int sa_nil)))) se_int))
      (ss_cons (ss_set 2 S.nd (se_eq hu (se_mod (se_f G__law_cell hr tk (ha := (sa_cons (se_V 0) (sa_cons se_int sa_nil)))) se_int) se_int))
      (ss_cons (ss_set 3 S.nd (se_sub (se_mod (se_f G__law_cell hr tk (ha := (sa_cons (se_V 0) (sa_cons se_int sa_nil)))) se_int) se_int))
      (ss_cons (ss_set 4 S.nd (se_lst (sa_cons se_str (sa_cons se_str (sa_cons se_str (sa_cons se_str (sa_cons se_str sa_nil)))))))
      (ss_cons (ss_set 5 S.nd (se_lst (sa_cons (se_new0 k_Even g_Even) (sa_cons (se_new0 k_Off g_Off) (sa_cons (se_new0 k_In g_In) (sa_cons (se_new0 k_Up g_Up) (sa_cons (se_new0 k_Down g_Down) sa_nil)))))))
      (ss_cons (ss_for hp rfl (si_rng1 rfl z_range se_int) (pg_name (i := 6) S.nd rfl (by first | exact .inl rfl | exact .inr rfl)) (tg_one 6) (ss_one (ss_if (st_not (st_tru (se_f G__law_as_told hr tk (ha := (sa_cons (se_ix (se_V 5) (se_V 6)) (sa_cons (se_ix (se_V 4) (se_V 6)) (sa_cons (se_V 1) (sa_cons (se_V 2) (sa_cons (se_V 3) sa_nil))))))))) (ss_one (ss_ret se_bl)) ss_nil)))
      (ss_cons (ss_set 7 S.nd (se_f G__law_made hr tk (ha := (sa_cons (se_V 0) (sa_cons (se_V 4) sa_nil)))))
      (ss_cons (ss_if (PW.pt (sw_and (st_notinSeq (se_V 7) (se_V 4)) (sw_one (st_not (st_tru (se_f G__law_refused hr tk (ha := (sa_cons (se_V 7) sa_nil))))) (.inl rfl)))) (ss_one (ss_ret se_bl)) ss_nil)
      (ss_cons (ss_set 8 S.nd (se_ix (se_lst (sa_cons se_non (sa_cons se_int (sa_cons se_int (sa_cons se_bl (sa_cons se_bl (sa_cons (se_lst (sa_cons se_str sa_nil)) (sa_cons (se_tup (sa_cons se_str sa_nil)) (sa_cons se_dict0 sa_nil))))))))) (se_mod (se_f G__law_cell hr tk (ha := (sa_cons (se_V 0) (sa_cons se_int sa_nil)))) se_int)))
      (ss_cons (ss_if (PW.pt (sw_or (st_not (st_tru (se_f G__law_refused hr tk (ha := (sa_cons (se_V 8) sa_nil))))) (sw_one (st_not (st_tru (se_f0 G__law_kinds hr tk))) (.inr rfl)))) (ss_one (ss_ret se_bl)) ss_nil)
      (ss_cons (ss_for hp rfl (si_seq (se_V 4)) (pg_name (i := 7) S.nd rfl (by first | exact .inl rfl | exact .inr rfl)) (tg_one 7) (ss_one (ss_if (st_not (st_tru (se_f G__law_as_told hr tk (ha := (sa_cons (se_f G_way_of hr tk (ha := (sa_cons (se_V 7) sa_nil))) (sa_cons (se_V 7) (sa_cons (se_V 1) (sa_cons (se_V 2) (sa_cons (se_V 3) sa_nil))))))))) (ss_one (ss_ret se_bl)) ss_nil)))
      (ss_one (ss_ret se_bl)))))))))))))
end
theorem facts {P : Program} {w : World} {K : PySem.W.Frag} {h : Heap} {mg : Str → Option Value} {f : Addr} (X : K.In h) (G : h.Ns mainGlobals mg) (hfa : mg ("law" : Str) = some (.ref f)) (c : SaysN fa fn ex K) :
    ∃ (K : PySem.W.Frag) (fd : FuncData), K.In h ∧ (∀ (s : Shared) (u : Value), BindsTo s fd ⟨[u], []⟩ [("_law_script", u)]) ∧ ∀ base : Heap, FnOk P w K mg base (L2.CX P w) 3 f fd ["_law_script"] (spOf K mg 1 m_law_k21) := by
  exact nf_fn X hfa (G_law c X G)
end Nf.W
open PySem PySem.W PySem.Calls PyProof.Rows
set_option maxHeartbeats 8000000 in
theorem Nf.W.holds_of (main : ∀ ns : List Int, ns.length ≤ 63 → (∀ z ∈ ns, Builtin.Int.intBits z ≤ 1048576) → Nf.m_law_k21 [.lst (ns.map .int)] = .ok (.bl true)) : PySem.Challenge.rw_nearfold_k21_ways.Holds := by
  w_on; o_law
  refine HandSHeadRun.head_any (r := OpenLaw.row PySem.Challenge.rw_nearfold_k21_ways) (q := view (OpenLaw.row PySem.Challenge.rw_nearfold_k21_ways).prog [30]) (H := Nf.W.hk) (ob := Nf.W.ob) (M := 16000) (loose := Nf.W.loose) (d := HandSHeadRun.topDef (OpenLaw.row PySem.Challenge.rw_nearfold_k21_ways).prog 30) (kwd := []) Nf.W.ob_eq
    (by kernel_rfl) (fun s => by kernel_rfl) Nf.W.run (by kernel_rfl) (by kernel_rfl) (by kernel_rfl) (by rfl) (by first | assumption | decide +kernel) (by decide +kernel) ⟨rfl, rfl, rfl, rfl, rfl, by decide +kernel⟩ ?hw ?hc
  case hw => w_witness2
  case hc =>
    refine Nf.nf_end (l := PySem.Challenge.rw_nearfold_k21_ways) (n := 63) (k := 3) (x := "_law_script") (sem := Nf.m_law_k21) rfl (by decide) (by kernel_rfl) ⟨rfl, by decide, by decide⟩ main ?F
    intro w mg fa h Y G hmg0
    obtain ⟨K, KX, c⟩ := Y
    have hmg : mg ("law" : PySem.Str) = some (.ref fa) := by
      have e : (HandSHeadRun.topDef (OpenLaw.row PySem.Challenge.rw_nearfold_k21_ways).prog 30).name = ("law" : PySem.Str) := by kernel_rfl
      rw [← e]
      exact hmg0
    exact Nf.W.facts KX G hmg c

set_option maxRecDepth 100000 in
set_option maxHeartbeats 8000000 in
theorem PySem.Challenge.cw_nearfold_k21_ways_holds : PySem.Challenge.rw_nearfold_k21_ways.Holds :=
  Nf.W.holds_of Nf.k21_main
