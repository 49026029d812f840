import PyProof.Rows.All
import Wide.All
import OpenK.AllK
import Wide.FinOn
import KE.KStateDown
import HandS.Base
import HandS.Call
import HandS.List
import HandS.Comp
import HandS.Ends
import HandS.Iter
import HandS.More
import HandS.Words
import HandS.WordsExc
import HandS.Defaults
import HandS.Evl
import HandS.Slots
import HandS.SlotsOwn
import HandS.Property
import HandS.ClsMeth
import HandS.IsInst
import HandS.Star
import HandS.Strs
import HandS.FStr
import HandS.Small
import HandS.TupMul
import HandS.TupLe
import HandS.SetFor
import HandS.Head0
import HandS.Head1
import HandS.Head2
import HandS.HeadEnd
import HandS.HeadHook1
import HandS.HeadHook2
import KE.KSuper
import HandS.Steps
import KE.DataMinMax
import HandS.NestedK
import PySem.Challenge.RW_pursewebs_k72_whole_plans_for_ever
set_option Elab.async false
set_option linter.all false
section
set_option maxRecDepth 100000
set_option maxHeartbeats 4000000
/-! The head: what the top has written, read as facts by names. -/
namespace Pw
open PySem PySem.Spec PyProof.Rows L2
abbrev Frag := PySem.W.Frag
def top (i : Nat) : Stmt := PySem.Challenge.pw_pursewebs_k72_whole_plans_for_ever.main.body.getD i (.Pass ⟨0, 0, 0, 0⟩)
/-! ### the part of the heap that is looked at -/
def valsNs (g : Addr → Option Obj) (L : Addr) : List Addr := match g L with
  | some ⟨_, _, .dict es _, _⟩ => es.toList.flatMap fun e => He.refV e.val
  | _ => []
def nsOf (g : Addr → Option Obj) (a : Addr) : List Addr := match g a with
  | some ⟨_, _, .cls cd, _⟩ => [cd.ns]
  | _ => []
def recOf (g : Addr → Option Obj) (a : Addr) : List Addr := match g a with
  | some ⟨_, _, .fields vs, _⟩ => vs.toList.flatMap He.refV
  | _ => []
def leafOf (g : Addr → Option Obj) (a : Addr) : List Addr := match g a with
  | some ⟨_, _, .func fd, _⟩ => He.refV fd.code ++ He.refV fd.defaults ++ fd.closure.map (·.2)
  | _ => []
def asP (g : Addr → Option Obj) : List Addr :=
  let l1 := valsNs g mainGlobals
  let l2 := l1.flatMap (nsOf g)
  let l3 := l2.flatMap (valsNs g)
  let l4 := l3.flatMap (recOf g)
  mainGlobals :: cStatics :: (l1 ++ l2 ++ l3 ++ l4 ++ (l1 ++ l3 ++ l4).flatMap (leafOf g))
/-! ### addresses by names -/
def pgA (K : Frag) (C : Addr) (f : Str) : Addr := He.ma K C f
def pgG (K : Frag) (C : Addr) (f : Str) : Addr := match PySem.W.recIn K (pgA K C f) "property" with
  | some (.ref g :: _) => g
  | _ => 0
def cmA (K : Frag) (C : Addr) (f : Str) : Addr := match PySem.W.findCls K (.ref C) (.type "type") f with
  | some (.get _ (.ref p) _ _) => p
  | _ => 0
def cmG (K : Frag) (C : Addr) (f : Str) : Addr := match PySem.W.recIn K (cmA K C f) "classmethod" with
  | some (.ref g :: _) => g
  | _ => 0
/-- the slot's place -/
def sI (K : Frag) (C : Addr) (f : Str) : Nat := (PySem.W.slotIn K (He.ma K C f) C).getD 0
/-! ### defs -/
structure DX where
  at_ : Frag → Addr
  name : Str
  qual : Str
  st : Stmt
  dfl : List He.Dv
  clo : List Str
abbrev FnX : Type := Option (Str × Str × Arguments × FuncBody × Scope × Addr × List Str × Addr)
def fnX (K : Frag) (a : Addr) : FnX := match K.lookup a with
  | some ⟨_, _, .func fd, _⟩ => some (fd.name, fd.qualname, fd.params, fd.body, fd.scope, fd.globals, fd.closure.map (·.1), fd.builtins)
  | _ => none
def DX.val (d : DX) : FnX := some (d.name, d.qual, defArgs d.st, .stmts (defBody d.st), defScope d.st, mainGlobals, d.clo, builtinsNs)
def DX.ok (K : Frag) (d : DX) : Bool := PySem.W.keepIn K (.ref (d.at_ K)) && (match K.lookup (d.at_ K) with
  | some ⟨_, _, .func fd, _⟩ => PySem.W.codeIn K fd.code d.qual && (He.dflB K fd.defaults (d.dfl.map (He.Dv.v K)) && He.kwdB K fd.kwdefaults [])
  | _ => false)
theorem DX.funD {K : Frag} {d : DX} (e : fnX K (d.at_ K) = d.val) (c : d.ok K = true) (h : d.clo = []) : ∃ fd, FunD K d.name d.qual (defArgs d.st) (defBody d.st) (defScope d.st) (d.dfl.map (He.Dv.v K)) [] (d.at_ K) fd := by
  obtain ⟨kp, c2⟩ := He.ba c
  unfold fnX at e
  cases q : K.lookup (d.at_ K) with
  | none =>
    rw [q] at c2
    cases c2
  | some o =>
    obtain ⟨oc, od, dt, osl⟩ := o
    rw [q] at c2 e
    cases dt with
    | func fd =>
      obtain ⟨n1, n2, n3, n4, n5, n6, n7, n8, n9, n10, n11, n12, n13, n14, n15⟩ := fd
      have e2 : (some (n1, n2, n3, n4, n5, n6, n7.map (·.1), n15) : FnX) = some (d.name, d.qual, defArgs d.st, .stmts (defBody d.st), defScope d.st, mainGlobals, d.clo, builtinsNs) := e
      simp only [Option.some.injEq, Prod.mk.injEq] at e2
      obtain ⟨h1, h2, h3, h4, h5, h6, h7, h8⟩ := e2
      rw [h] at h7
      have h7' : n7 = [] := List.map_eq_nil_iff.mp h7
      subst h1 h2 h3 h4 h5 h6 h7' h8
      have c3 : (PySem.W.codeIn K n13 d.qual && (He.dflB K n8 (d.dfl.map (He.Dv.v K)) && He.kwdB K n9 [])) = true := c2
      obtain ⟨k1, k2⟩ := He.ba c3
      obtain ⟨k3, k4⟩ := He.ba k2
      exact ⟨_, ⟨oc, od, n8, n9, n10, n11, n12, n13, n14, osl, rfl, q, k1, He.dflB_ok k3, He.kwdB_ok k4⟩, kp⟩
    | _ => cases c2
/-- a def that says super(): its cell -/
theorem DX.funC {K : Frag} {d : DX} (e : fnX K (d.at_ K) = d.val) (c : d.ok K = true) (h : d.clo = [("__class__" : Str)]) (hd : d.dfl = []) : ∃ (oc : Value) (od : Option Addr) (kV doc pm : Value) (an : Option Addr) (cdv ct : Value) (osl : Array (Option Value)) (cc : Addr),
    K.lookup (d.at_ K) = some ⟨oc, od, .func (PySem.W.ksFn d.name d.qual (defArgs d.st) (defBody d.st) (defScope d.st) .none kV doc pm an cdv ct cc), osl⟩ ∧ PySem.W.codeIn K cdv d.qual = true := by
  obtain ⟨kp, c2⟩ := He.ba c
  unfold fnX at e
  cases q : K.lookup (d.at_ K) with
  | none =>
    rw [q] at c2
    cases c2
  | some o =>
    obtain ⟨oc, od, dt, osl⟩ := o
    rw [q] at c2 e
    cases dt with
    | func fd =>
      obtain ⟨n1, n2, n3, n4, n5, n6, n7, n8, n9, n10, n11, n12, n13, n14, n15⟩ := fd
      have e2 : (some (n1, n2, n3, n4, n5, n6, n7.map (·.1), n15) : FnX) = some (d.name, d.qual, defArgs d.st, .stmts (defBody d.st), defScope d.st, mainGlobals, d.clo, builtinsNs) := e
      simp only [Option.some.injEq, Prod.mk.injEq] at e2
      obtain ⟨h1, h2, h3, h4, h5, h6, h7, h8⟩ := e2
      rw [h] at h7
      have c3 : (PySem.W.codeIn K n13 d.qual && (He.dflB K n8 (d.dfl.map (He.Dv.v K)) && He.kwdB K n9 [])) = true := c2
      obtain ⟨k1, k2⟩ := He.ba c3
      obtain ⟨k3, k4⟩ := He.ba k2
      rw [hd] at k3
      have hD := He.dflB_ok k3
      have e8 : n8 = .none := by
        rcases hD with ⟨_, z⟩ | ⟨z, _⟩
        · exact z
        · exact absurd rfl z
      match n7, h7 with
      | [(y, cc)], h7 =>
        have hy : y = ("__class__" : Str) := by
          have h9 : [y] = [("__class__" : Str)] := h7
          exact List.head_eq_of_cons_eq h9
        subst h1 h2 h3 h4 h5 h6 h8 hy e8
        exact ⟨oc, od, n9, n10, n11, n12, n13, n14, osl, cc, rfl, k1⟩
      | [], h7 => cases h7
      | _ :: _ :: _, h7 => cases (List.cons.inj h7).2
    | _ => cases c2
def xf_is_integer : DX := ⟨fun K => He.ga K "is_integer", "is_integer", "is_integer", top 9, [], []⟩
def xf_need_integer : DX := ⟨fun K => He.ga K "need_integer", "need_integer", "need_integer", top 10, [], []⟩
def xf_need_list : DX := ⟨fun K => He.ga K "need_list", "need_list", "need_list", top 11, [], []⟩
def xf_need_from : DX := ⟨fun K => He.ga K "need_from", "need_from", "need_from", top 12, [], []⟩
def xf_need_between : DX := ⟨fun K => He.ga K "need_between", "need_between", "need_between", top 13, [], []⟩
def xf_need_up_to : DX := ⟨fun K => He.ga K "need_up_to", "need_up_to", "need_up_to", top 14, [], []⟩
def xf_need_integers : DX := ⟨fun K => He.ga K "need_integers", "need_integers", "need_integers", top 15, [], []⟩
def xf_as_row : DX := ⟨fun K => He.ga K "as_row", "as_row", "as_row", top 16, [], []⟩
def xf_as_stands : DX := ⟨fun K => He.ga K "as_stands", "as_stands", "as_stands", top 17, [], []⟩
def xf_has_due_kind : DX := ⟨fun K => He.ga K "has_due_kind", "has_due_kind", "has_due_kind", top 20, [], []⟩
def xf_has_due_range : DX := ⟨fun K => He.ga K "has_due_range", "has_due_range", "has_due_range", top 21, [], []⟩
def xf_kept_due : DX := ⟨fun K => He.ga K "kept_due", "kept_due", "kept_due", top 22, [], []⟩
def xf_due_at : DX := ⟨fun K => He.ga K "due_at", "due_at", "due_at", top 23, [], []⟩
def xf_due_row : DX := ⟨fun K => He.ga K "due_row", "due_row", "due_row", top 24, [], []⟩
def xf_half_of : DX := ⟨fun K => He.ga K "half_of", "half_of", "half_of", top 26, [], []⟩
def xf__look_kinds : DX := ⟨fun K => He.ga K "_look_kinds", "_look_kinds", "_look_kinds", top 29, [], []⟩
def xf__look_stand : DX := ⟨fun K => He.ga K "_look_stand", "_look_stand", "_look_stand", top 30, [], []⟩
def xf__look_web : DX := ⟨fun K => He.ga K "_look_web", "_look_web", "_look_web", top 31, [], []⟩
def xm_Web___init__ : DX := ⟨fun K => He.ma K (He.ga K "Web") "__init__", "__init__", "Web.__init__", inClass (top 32) 1, [], []⟩
def xm_Web_size : DX := ⟨fun K => pgG K (He.ga K "Web") "size", "size", "Web.size", inClass (top 32) 5, [], []⟩
def xm_Web_first : DX := ⟨fun K => pgG K (He.ga K "Web") "first", "first", "Web.first", inClass (top 32) 6, [], []⟩
def xm_Web_second : DX := ⟨fun K => pgG K (He.ga K "Web") "second", "second", "Web.second", inClass (top 32) 7, [], []⟩
def xm_Web_marks : DX := ⟨fun K => pgG K (He.ga K "Web") "marks", "marks", "Web.marks", inClass (top 32) 8, [], []⟩
def xm_Web_dues : DX := ⟨fun K => pgG K (He.ga K "Web") "dues", "dues", "Web.dues", inClass (top 32) 9, [], []⟩
def xm_Web_moving : DX := ⟨fun K => pgG K (He.ga K "Web") "moving", "moving", "Web.moving", inClass (top 32) 11, [], []⟩
def xf_need_web : DX := ⟨fun K => He.ga K "need_web", "need_web", "need_web", top 33, [], []⟩
def xf_need_stand : DX := ⟨fun K => He.ga K "need_stand", "need_stand", "need_stand", top 34, [], []⟩
def xf_need_moving : DX := ⟨fun K => He.ga K "need_moving", "need_moving", "need_moving", top 35, [], []⟩
def xf_need_row : DX := ⟨fun K => He.ga K "need_row", "need_row", "need_row", top 38, [.non], []⟩
def xf_price_low : DX := ⟨fun K => He.ga K "price_low", "price_low", "price_low", top 39, [], []⟩
def xf_price_high : DX := ⟨fun K => He.ga K "price_high", "price_high", "price_high", top 40, [], []⟩
def xf_price_at : DX := ⟨fun K => He.ga K "price_at", "price_at", "price_at", top 41, [], []⟩
def xf_told_first : DX := ⟨fun K => He.ga K "told_first", "told_first", "told_first", top 43, [], []⟩
def xf_told_second : DX := ⟨fun K => He.ga K "told_second", "told_second", "told_second", top 44, [], []⟩
def xf_call_kinds : DX := ⟨fun K => He.ga K "call_kinds", "call_kinds", "call_kinds", top 47, [], []⟩
def xf_call_set : DX := ⟨fun K => He.ga K "call_set", "call_set", "call_set", top 48, [], []⟩
def xf_call_bounds : DX := ⟨fun K => He.ga K "call_bounds", "call_bounds", "call_bounds", top 49, [.int 60], []⟩
def xf_round_under : DX := ⟨fun K => He.ga K "round_under", "round_under", "round_under", top 50, [], []⟩
def xf_round_of : DX := ⟨fun K => He.ga K "round_of", "round_of", "round_of", top 51, [], []⟩
def xf_call_fall_out : DX := ⟨fun K => He.ga K "call_fall_out", "call_fall_out", "call_fall_out", top 53, [], []⟩
def xf_call_count_out : DX := ⟨fun K => He.ga K "call_count_out", "call_count_out", "call_count_out", top 54, [], []⟩
def xf_forever_rising : DX := ⟨fun K => He.ga K "forever_rising", "forever_rising", "forever_rising", top 56, [], []⟩
def xf_forever_risen : DX := ⟨fun K => He.ga K "forever_risen", "forever_risen", "forever_risen", top 57, [], []⟩
def xf_forever_by_rises : DX := ⟨fun K => He.ga K "forever_by_rises", "forever_by_rises", "forever_by_rises", top 58, [], []⟩
def xf_raised_row : DX := ⟨fun K => He.ga K "raised_row", "raised_row", "raised_row", top 60, [], []⟩
def xf_need_ranks : DX := ⟨fun K => He.ga K "need_ranks", "need_ranks", "need_ranks", top 61, [], []⟩
def xf_lessened_row : DX := ⟨fun K => He.ga K "lessened_row", "lessened_row", "lessened_row", top 63, [], []⟩
def xf_call_half_look : DX := ⟨fun K => He.ga K "call_half_look", "call_half_look", "call_half_look", top 64, [], []⟩
def xm_CallPaper___init__ : DX := ⟨fun K => He.ma K (He.ga K "CallPaper") "__init__", "__init__", "CallPaper.__init__", inClass (top 65) 1, [], []⟩
def xm_CallPaper_of : DX := ⟨fun K => cmG K (He.ga K "CallPaper") "of", "of", "CallPaper.of", inClass (top 65) 2, [], []⟩
def xm_CallPaper_web : DX := ⟨fun K => pgG K (He.ga K "CallPaper") "web", "web", "CallPaper.web", inClass (top 65) 3, [], []⟩
def xm_CallPaper_chips : DX := ⟨fun K => pgG K (He.ga K "CallPaper") "chips", "chips", "CallPaper.chips", inClass (top 65) 4, [], []⟩
def xm_CallPaper_calls : DX := ⟨fun K => pgG K (He.ga K "CallPaper") "calls", "calls", "CallPaper.calls", inClass (top 65) 5, [], []⟩
def xm_CallPaper_row : DX := ⟨fun K => pgG K (He.ga K "CallPaper") "row", "row", "CallPaper.row", inClass (top 65) 6, [], []⟩
def xm_CallPaper_ranks : DX := ⟨fun K => pgG K (He.ga K "CallPaper") "ranks", "ranks", "CallPaper.ranks", inClass (top 65) 7, [], []⟩
def xm_CallPaper_counts : DX := ⟨fun K => pgG K (He.ga K "CallPaper") "counts", "counts", "CallPaper.counts", inClass (top 65) 8, [], []⟩
def xf_need_call_paper : DX := ⟨fun K => He.ga K "need_call_paper", "need_call_paper", "need_call_paper", top 66, [], []⟩
def xm_Plan___init__ : DX := ⟨fun K => He.ma K (He.ga K "Plan") "__init__", "__init__", "Plan.__init__", inClass (top 68) 0, [], []⟩
def xm_Plan_row : DX := ⟨fun K => pgG K (He.ga K "Plan") "row", "row", "Plan.row", inClass (top 68) 4, [], []⟩
def xm_Plan_look : DX := ⟨fun K => He.ma K (He.ga K "Plan") "look", "look", "Plan.look", inClass (top 68) 6, [], []⟩
def xf_outcome_of : DX := ⟨fun K => He.ga K "outcome_of", "outcome_of", "outcome_of", top 70, [], []⟩
def xm_CallFirst___init__ : DX := ⟨fun K => He.ma K (He.ga K "CallFirst") "__init__", "__init__", "CallFirst.__init__", inClass (top 73) 0, [], ["__class__"]⟩
def xm_CallFirst___call__ : DX := ⟨fun K => He.ma K (He.ga K "CallFirst") "__call__", "__call__", "CallFirst.__call__", inClass (top 73) 1, [], []⟩
def xm_CallFirst_due_by : DX := ⟨fun K => He.ma K (He.ga K "CallFirst") "due_by", "due_by", "CallFirst.due_by", inClass (top 73) 2, [], []⟩
def xm_CallFirst_falls : DX := ⟨fun K => He.ma K (He.ga K "CallFirst") "falls", "falls", "CallFirst.falls", inClass (top 73) 3, [], []⟩
def xm_CallSecond___init__ : DX := ⟨fun K => He.ma K (He.ga K "CallSecond") "__init__", "__init__", "CallSecond.__init__", inClass (top 74) 0, [], ["__class__"]⟩
def xm_CallSecond___call__ : DX := ⟨fun K => He.ma K (He.ga K "CallSecond") "__call__", "__call__", "CallSecond.__call__", inClass (top 74) 1, [], []⟩
def xm_CallSecond_visits_at_most : DX := ⟨fun K => He.ma K (He.ga K "CallSecond") "visits_at_most", "visits_at_most", "CallSecond.visits_at_most", inClass (top 74) 2, [], []⟩
def xm_CallSecond_falls : DX := ⟨fun K => He.ma K (He.ga K "CallSecond") "falls", "falls", "CallSecond.falls", inClass (top 74) 3, [], []⟩
def xf_call_duel_look : DX := ⟨fun K => He.ga K "call_duel_look", "call_duel_look", "call_duel_look", top 75, [], []⟩
def xf_call_duel : DX := ⟨fun K => He.ga K "call_duel", "call_duel", "call_duel", top 76, [], []⟩
def xf__law_pot : DX := ⟨fun K => He.ga K "_law_pot", "_law_pot", "_law_pot", top 78, [], []⟩
def xf__law_draw : DX := ⟨fun K => He.ga K "_law_draw", "_law_draw", "_law_draw", top 79, [], []⟩
def xf__law_whole : DX := ⟨fun K => He.ga K "_law_whole", "_law_whole", "_law_whole", top 80, [], []⟩
def xf__law_lot : DX := ⟨fun K => He.ga K "_law_lot", "_law_lot", "_law_lot", top 81, [], []⟩
def xf__law_due : DX := ⟨fun K => He.ga K "_law_due", "_law_due", "_law_due", top 82, [], []⟩
def xf__law_marks : DX := ⟨fun K => He.ga K "_law_marks", "_law_marks", "_law_marks", top 83, [], []⟩
def xf__law_path : DX := ⟨fun K => He.ga K "_law_path", "_law_path", "_law_path", top 84, [], []⟩
def xf__law_web : DX := ⟨fun K => He.ga K "_law_web", "_law_web", "_law_web", top 85, [], []⟩
def xf__law_due_at : DX := ⟨fun K => He.ga K "_law_due_at", "_law_due_at", "_law_due_at", top 86, [], []⟩
def xf__law_half : DX := ⟨fun K => He.ga K "_law_half", "_law_half", "_law_half", top 87, [], []⟩
def xf__law_low : DX := ⟨fun K => He.ga K "_law_low", "_law_low", "_law_low", top 88, [], []⟩
def xf__law_high : DX := ⟨fun K => He.ga K "_law_high", "_law_high", "_law_high", top 89, [], []⟩
def xf__law_price : DX := ⟨fun K => He.ga K "_law_price", "_law_price", "_law_price", top 90, [], []⟩
def xf__law_calls : DX := ⟨fun K => He.ga K "_law_calls", "_law_calls", "_law_calls", top 91, [], []⟩
def xf__law_round : DX := ⟨fun K => He.ga K "_law_round", "_law_round", "_law_round", top 92, [], []⟩
def xf__law_forever : DX := ⟨fun K => He.ga K "_law_forever", "_law_forever", "_law_forever", top 93, [], []⟩
def xf__law_built : DX := ⟨fun K => He.ga K "_law_built", "_law_built", "_law_built", top 94, [], []⟩
def xf__law_call_ranks : DX := ⟨fun K => He.ga K "_law_call_ranks", "_law_call_ranks", "_law_call_ranks", top 95, [], []⟩
def xf__law_call_counts : DX := ⟨fun K => He.ga K "_law_call_counts", "_law_call_counts", "_law_call_counts", top 96, [], []⟩
def xf__law_told_bid : DX := ⟨fun K => He.ga K "_law_told_bid", "_law_told_bid", "_law_told_bid", top 97, [], []⟩
def xf__law_first : DX := ⟨fun K => He.ga K "_law_first", "_law_first", "_law_first", top 98, [], []⟩
def xf__law_second : DX := ⟨fun K => He.ga K "_law_second", "_law_second", "_law_second", top 99, [], []⟩
def xf__law_move : DX := ⟨fun K => He.ga K "_law_move", "_law_move", "_law_move", top 100, [], []⟩
def xf__law_duel : DX := ⟨fun K => He.ga K "_law_duel", "_law_duel", "_law_duel", top 101, [], []⟩
def xf__law_pair : DX := ⟨fun K => He.ga K "_law_pair", "_law_pair", "_law_pair", top 102, [], []⟩
def xf__law_states : DX := ⟨fun K => He.ga K "_law_states", "_law_states", "_law_states", top 103, [], []⟩
def xf__law_first_play : DX := ⟨fun K => He.ga K "_law_first_play", "_law_first_play", "_law_first_play", top 104, [], []⟩
def xf__law_second_play : DX := ⟨fun K => He.ga K "_law_second_play", "_law_second_play", "_law_second_play", top 105, [], []⟩
def xf_law : DX := ⟨fun K => He.ga K "law", "law", "law", top 106, [], []⟩
def fn0 : List DX := [xf_is_integer, xf_need_integer, xf_need_list, xf_need_from, xf_need_between, xf_need_up_to, xf_need_integers, xf_as_row, xf_as_stands, xf_has_due_kind, xf_has_due_range, xf_kept_due, xf_due_at, xf_due_row, xf_half_of, xf__look_kinds, xf__look_stand, xf__look_web, xm_Web___init__, xm_Web_size, xm_Web_first, xm_Web_second, xm_Web_marks, xm_Web_dues, xm_Web_moving, xf_need_web, xf_need_stand, xf_need_moving, xf_need_row, xf_price_low]
def fn1 : List DX := [xf_price_high, xf_price_at, xf_told_first, xf_told_second, xf_call_kinds, xf_call_set, xf_call_bounds, xf_round_under, xf_round_of, xf_call_fall_out, xf_call_count_out, xf_forever_rising, xf_forever_risen, xf_forever_by_rises, xf_raised_row, xf_need_ranks, xf_lessened_row, xf_call_half_look, xm_CallPaper___init__, xm_CallPaper_of, xm_CallPaper_web, xm_CallPaper_chips, xm_CallPaper_calls, xm_CallPaper_row, xm_CallPaper_ranks, xm_CallPaper_counts, xf_need_call_paper, xm_Plan___init__, xm_Plan_row, xm_Plan_look]
def fn2 : List DX := [xf_outcome_of, xm_CallFirst___init__, xm_CallFirst___call__, xm_CallFirst_due_by, xm_CallFirst_falls, xm_CallSecond___init__, xm_CallSecond___call__, xm_CallSecond_visits_at_most, xm_CallSecond_falls, xf_call_duel_look, xf_call_duel, xf__law_pot, xf__law_draw, xf__law_whole, xf__law_lot, xf__law_due, xf__law_marks, xf__law_path, xf__law_web, xf__law_due_at, xf__law_half, xf__law_low, xf__law_high, xf__law_price, xf__law_calls, xf__law_round, xf__law_forever, xf__law_built, xf__law_call_ranks, xf__law_call_counts]
def fn3 : List DX := [xf__law_told_bid, xf__law_first, xf__law_second, xf__law_move, xf__law_duel, xf__law_pair, xf__law_states, xf__law_first_play, xf__law_second_play, xf_law]
def fn : List DX := fn0 ++ fn1 ++ fn2 ++ fn3
def glo0 : List Str := ["is_integer", "need_integer", "need_list", "need_from", "need_between", "need_up_to", "need_integers", "as_row", "as_stands", "has_due_kind", "has_due_range", "kept_due", "due_at", "due_row", "half_of", "_look_kinds", "_look_stand", "_look_web", "need_web", "need_stand", "need_moving", "need_row", "price_low", "price_high", "price_at", "told_first", "told_second", "call_kinds", "call_set", "call_bounds"]
def glo1 : List Str := ["round_under", "round_of", "call_fall_out", "call_count_out", "forever_rising", "forever_risen", "forever_by_rises", "raised_row", "need_ranks", "lessened_row", "call_half_look", "need_call_paper", "outcome_of", "call_duel_look", "call_duel", "_law_pot", "_law_draw", "_law_whole", "_law_lot", "_law_due", "_law_marks", "_law_path", "_law_web", "_law_due_at", "_law_half", "_law_low", "_law_high", "_law_price", "_law_calls", "_law_round"]
def glo2 : List Str := ["_law_forever", "_law_built", "_law_call_ranks", "_law_call_counts", "_law_told_bid", "_law_first", "_law_second", "_law_move", "_law_duel", "_law_pair", "_law_states", "_law_first_play", "_law_second_play", "law", "Web", "CallPaper", "Plan", "CallFirst", "CallSecond"]
def glo : List Str := glo0 ++ glo1 ++ glo2
def free : List Str := ["len", "range", "min", "max", "int", "isinstance", "tuple", "list", "set", "sorted", "bool", "all", "super", "str"]
def intsG : List (Str × Int) := [("GREATEST_DUE", 10 ^ 40), ("MOST_STANDS", 60), ("FAR_CHIPS", 10 ^ 40), ("CALL_CHIPS", 60), ("DUEL_MOVES", 5000)]
def sltB (K : Frag) (C : Addr) : Bool := PySem.W.plainGet K C Str.empty && (PySem.W.isClsIn K C && (PySem.W.plainOver K C && He.eqO (PySem.W.findIn K (.ref C) "__setattr__") (some (some (.builtin "object.__setattr__")))))
def isiB (K : Frag) (C : Addr) : Bool := He.eqO (PySem.W.findIn K (.ref C) "__class__") (some (some (.builtin "object.__class__"))) && (He.eqO (PySem.W.specialIn K (.builtin "object.__class__") "__get__") (some (some (.builtin "getset_descriptor.__get__"))) &&
  (decide (PySem.W.takesIn K (.builtin "object.__class__") = some true) && (decide (PySem.W.mroIn K C (.type "object") = some true) && decide (PySem.W.kitOne K (.ref C) (.ref C) = some true))))
def slot1B (K : Frag) (C : Addr) (f : Str) : Bool := He.eqO (PySem.W.findIn K (.ref C) f) (some (some (.ref (He.ma K C f)))) && (He.eqO (PySem.W.specialIn K (.ref (He.ma K C f)) "__get__") (some (some (.builtin "member_descriptor.__get__"))) &&
  (decide (PySem.W.takesIn K (.ref (He.ma K C f)) = some true) && (decide (PySem.W.typeIn K (.ref (He.ma K C f)) = some (.type "member_descriptor")) && (decide (PySem.W.slotIn K (He.ma K C f) C = some (sI K C f)) && decide (sI K C f < 1000)))))
def propB (K : Frag) (C : Addr) (f : Str) : Bool := He.eqO (PySem.W.findIn K (.ref C) f) (some (some (.ref (pgA K C f)))) && (He.eqO (PySem.W.specialIn K (.ref (pgA K C f)) "__get__") (some (some (.builtin "property.__get__"))) &&
  (decide (PySem.W.takesIn K (.ref (pgA K C f)) = some true) && (match PySem.W.recIn K (pgA K C f) "property" with
    | some (.ref g :: _) => decide (g = pgG K C f)
    | _ => false)))
def clsB (K : Frag) (C : Addr) : Bool := PySem.W.plainGet K C Str.empty && (PySem.W.hasDictIn K C && (PySem.W.plainOver K C && He.eqO (PySem.W.findIn K (.ref C) "__setattr__") (some (some (.builtin "object.__setattr__")))))
def mkB (K : Frag) (C : Addr) : Bool := PySem.W.makesIn K C && (He.eqO (PySem.W.findIn K (.ref C) "__init__") (some (some (.ref (He.ma K C "__init__")))) && (PySem.W.isFn K (.ref (He.ma K C "__init__")) && PySem.W.keepIn K (.ref C)))
def methB (K : Frag) (C : Addr) (m : Str) : Bool := He.eqO (PySem.W.findIn K (.ref C) m) (some (some (.ref (He.ma K C m)))) && (PySem.W.isFn K (.ref (He.ma K C m)) && (PySem.W.keepIn K (.ref (He.ma K C m)) && PySem.W.fnIn K (He.ma K C m)))
def noB (K : Frag) (C : Addr) (f : Str) : Bool := He.eqO (PySem.W.findIn K (.ref C) f) (some none)
/-- Plan's def m as CallFirst has it is the one of Plan -/
def sameB (K : Frag) (C D : Addr) (m : Str) : Bool := decide (He.ma K C m = He.ma K D m)
def cmB (K : Frag) (C : Addr) (m : Str) : Bool := PySem.W.readsIn K C (.type "type") && (He.eqO (PySem.W.specialIn K (.ref C) "__getattribute__") (some (some (.builtin "type.__getattribute__"))) && ((match PySem.W.findCls K (.ref C) (.type "type") m with
    | some (.get a (.ref p) b c) => decide (a = .builtin "classmethod.__get__") && (decide (p = cmA K C m) && (decide (b = .none) && decide (c = .ref C)))
    | _ => false) && ((match PySem.W.recIn K (cmA K C m) "classmethod" with
    | some (.ref g :: _) => decide (g = cmG K C m)
    | _ => false) && PySem.W.fnIn K (cmG K C m))))
/-- the cell of super() in C's __init__ -/
def cellB (K : Frag) (C : Addr) : Bool := match K.lookup (He.ma K C "__init__") with
  | some ⟨_, _, .func fd, _⟩ => (match fd.closure with
    | [(_, cc)] => (match K.lookup cc with
      | some ⟨_, _, .cell (some (.ref D)), _⟩ => decide (D = C)
      | _ => false)
    | _ => false)
  | _ => false
/-- the file of the code of C's __init__ -/
def codeFB (K : Frag) (C : Addr) : Bool := match K.lookup (He.ma K C "__init__") with
  | some ⟨_, _, .func fd, _⟩ => (match fd.code with
    | .ref c => (match K.lookup c with
      | some ⟨_, _, .fields vs, _⟩ => (match (vs[2]? : Option Value) with
        | some (Value.str file _) => decide (file = ("/claim/cut.py" : Str))
        | _ => false)
      | _ => false)
    | _ => false)
  | _ => false
def superB (K : Frag) (C D : Addr) : Bool := (PySem.W.clsIn K C).isSome && (decide (PySem.W.mroIn K C (.ref C) = some true) && (He.eqO (PySem.W.nsIn K cStatics "thirdparty.any") (some none) && (He.eqO (PySem.W.ks_superIn K C C "__init__") (some (some (.ref (He.ma K D "__init__")))) && decide (PySem.W.typeIn K (.ref (He.ma K D "__init__")) = some (.type "function")))))
abbrev gW (K : Frag) : Addr := He.ga K "Web"
abbrev gP (K : Frag) : Addr := He.ga K "CallPaper"
abbrev g1 (K : Frag) : Addr := He.ga K "CallFirst"
abbrev g2 (K : Frag) : Addr := He.ga K "CallSecond"
abbrev gN (K : Frag) : Addr := He.ga K "Plan"
def slW : List Str := ["_first", "_second", "_marks", "_dues", "_ends", "_moving", "_greatest_due"]
def slP : List Str := ["_web", "_chips", "_calls", "_row", "_ranks", "_counts"]
def exB (K : Frag) : List Bool := [
  glo.all fun x => He.eqO (PySem.W.nsIn K mainGlobals x) (some (some (.ref (He.ga K x)))),
  free.all fun x => He.eqO (PySem.W.nsIn K mainGlobals x) (some none),
  intsG.all fun x => (match PySem.W.nsIn K mainGlobals x.1 with
    | some (some (.int j _)) => decide (j = x.2)
    | _ => false),
  sltB K (gW K), sltB K (gP K), isiB K (gW K), isiB K (gP K),
  slW.all fun f => slot1B K (gW K) f, slP.all fun f => slot1B K (gP K) f,
  decide ((slW.map (sI K (gW K))).Nodup), decide ((slP.map (sI K (gP K))).Nodup),
  ["size", "first", "second", "marks", "dues", "moving"].all fun f => propB K (gW K) f, ["web", "chips", "calls", "row", "ranks", "counts"].all fun f => propB K (gP K) f,
  mkB K (gW K), mkB K (gP K), mkB K (g1 K), mkB K (g2 K), clsB K (g1 K), clsB K (g2 K),
  ["__call__", "due_by", "falls", "look"].all fun m => methB K (g1 K) m, ["__call__", "visits_at_most", "falls", "look"].all fun m => methB K (g2 K) m,
  ["_web", "_chips", "_row", "_paper"].all fun f => noB K (g1 K) f, ["_web", "_chips", "_row", "_paper"].all fun f => noB K (g2 K) f,
  sameB K (g1 K) (gN K) "look", sameB K (g2 K) (gN K) "look", propB K (g1 K) "row", decide (pgG K (g1 K) "row" = pgG K (gN K) "row"),
  cmB K (gP K) "of", cellB K (g1 K), cellB K (g2 K), superB K (g1 K) (gN K), superB K (g2 K) (gN K), codeFB K (g1 K), codeFB K (g2 K)]
/-! ### the Hook -/
abbrev AlP : Type := Bool × List FnX
def obsP (K : Frag) : AlP := ((exB K).all id && fn.all fun d => d.ok K, fn.map fun d => fnX K (d.at_ K))
def valP : AlP := (true, fn.map DX.val)
def SaysP (K : Frag) : Prop := obsP K = valP
def obsPG (g : Addr → Option Obj) : AlP := obsP (He.frG g (asP g))
def hk : PySem.W.Hook where
  α := AlP
  obs := fun s => obsPG s.heap.get?
  val := fun _ => valP
  says := fun _ h => ∃ K : Frag, K.In h ∧ SaysP K
  of := fun _ _ e => ⟨_, He.frG_in, e⟩
  keeps := fun _ _ _ ⟨K, hK, c⟩ k => ⟨K, PySem.W.Frag.In.keeps hK k, c⟩
theorem obsPG_eq {g : Addr → Option Obj} {s : Shared} (h : ∀ a, g a = s.heap.get? a) : obsPG g = hk.obs s := by
  have e : g = s.heap.get? := funext h
  rw [e] <;> rfl
theorem SaysP.fact {K : Frag} (c : SaysP K) (i : Nat) {b : Bool} (h : (exB K)[i]? = some b := by rfl) : b = true := by
  have c1 := (He.ba (show ((exB K).all id && fn.all fun d => d.ok K) = true from congrArg (fun z : AlP => z.1) c)).1
  exact List.all_eq_true.mp c1 b (List.mem_of_getElem? h)
theorem SaysP.def_ {K : Frag} (c : SaysP K) {d : DX} (h : d ∈ fn) : fnX K (d.at_ K) = d.val ∧ d.ok K = true := by
  have c2 := (He.ba (show ((exB K).all id && fn.all fun d => d.ok K) = true from congrArg (fun z : AlP => z.1) c)).2
  have e : fn.map (fun d => fnX K (d.at_ K)) = fn.map DX.val := congrArg (fun z : AlP => z.2) c
  obtain ⟨i, hi, e0⟩ := List.mem_iff_getElem.mp h
  have e1 : fn[i]? = some d := by rw [List.getElem?_eq_getElem hi, e0]
  have e2 : (fn.map fun d => fnX K (d.at_ K))[i]? = (fn.map DX.val)[i]? := by rw [e]
  rw [List.getElem?_map, List.getElem?_map, e1] at e2
  exact ⟨Option.some.inj e2, List.all_eq_true.mp c2 d h⟩
end Pw
end

section
set_option maxRecDepth 100000
set_option maxHeartbeats 0
namespace Pw
open PySem PySem.Spec PyProof.Rows L2
abbrev R : PySem.W.OpenRow := PySem.W.OpenLaw.row PySem.Challenge.rw_pursewebs_k72_whole_plans_for_ever
def ob (s : PySem.W.SharedT) : AlP := obsPG (HandSHeadRun.getT s)
theorem ob_eq (s : PySem.W.SharedT) : ob s = hk.obs s.abs := obsPG_eq (HandSHeadRun.getT_eq s)
def loose0 : List Str := ["_wall", "PurseError", "WrongKind", "WrongNumber", "WrongWeb", "WrongDeed", "TooMuch", "is_integer", "need_integer", "need_list", "need_from", "need_between", "need_up_to", "need_integers", "as_row", "as_stands", "GREATEST_DUE", "has_due_kind", "has_due_range", "kept_due", "due_at", "due_row", "half_of", "MOST_STANDS", "_look_kinds", "_look_stand", "_look_web", "Web", "need_web", "need_stand"]
def loose1 : List Str := ["need_moving", "FAR_CHIPS", "need_row", "price_low", "price_high", "price_at", "told_first", "told_second", "CALL_CHIPS", "call_kinds", "call_set", "call_bounds", "round_under", "round_of", "call_fall_out", "call_count_out", "forever_rising", "forever_risen", "forever_by_rises", "raised_row", "need_ranks", "lessened_row", "call_half_look", "CallPaper", "need_call_paper", "Plan", "outcome_of", "DUEL_MOVES", "CallFirst", "CallSecond"]
def loose2 : List Str := ["call_duel_look", "call_duel", "_law_pot", "_law_draw", "_law_whole", "_law_lot", "_law_due", "_law_marks", "_law_path", "_law_web", "_law_due_at", "_law_half", "_law_low", "_law_high", "_law_price", "_law_calls", "_law_round", "_law_forever", "_law_built", "_law_call_ranks", "_law_call_counts", "_law_told_bid", "_law_first", "_law_second", "_law_move", "_law_duel", "_law_pair", "_law_states", "_law_first_play", "_law_second_play"]
def loose : List Str := loose0 ++ loose1 ++ loose2
theorem run (w : World) : HandSHeadRun.RunEq R (PySem.W.view R.prog [106]) hk ob 12000 loose w := by
  intro os
  kernel_rfl
end Pw
end

section
/-! The plain mathematics: rounds, the row for ever, ranks and counts, both plans. No Python in sight. -/
namespace Pw

inductive Due where
  | no
  | chips (x : Int)
  | less (x : Int)

def dueAt : Due → Int → Int
  | .no, K => K
  | .chips x, K => min x K
  | .less x, K => max 0 (K - x)

def half (m x y : Int) : Int := if m = 1 then (x + max x y) / 2 else (min x y + y + 1) / 2

/-- the least and the greatest of a list -/
def minOf : List Int → Int
  | [] => 0
  | a :: l => l.foldl min a
def maxOf : List Int → Int
  | [] => 0
  | a :: l => l.foldl max a

theorem foldl_min_le (l : List Int) : ∀ a, l.foldl min a ≤ a ∧ ∀ x ∈ l, l.foldl min a ≤ x := by
  induction l with
  | nil => intro a; exact ⟨Int.le_refl _, fun x h => by cases h⟩
  | cons b l ih =>
    intro a
    obtain ⟨h1, h2⟩ := ih (min a b)
    refine ⟨by show l.foldl min (min a b) ≤ a; omega, fun x hx => ?_⟩
    show l.foldl min (min a b) ≤ x
    rcases List.mem_cons.mp hx with e | e
    · subst e; omega
    · exact h2 x e
theorem foldl_min_mem (l : List Int) : ∀ a, l.foldl min a = a ∨ l.foldl min a ∈ l := by
  induction l with
  | nil => intro a; exact .inl rfl
  | cons b l ih =>
    intro a
    show l.foldl min (min a b) = a ∨ l.foldl min (min a b) ∈ b :: l
    rcases ih (min a b) with h | h
    · rw [h]
      by_cases c : a ≤ b
      · exact .inl (by omega)
      · exact .inr (by rw [show min a b = b by omega]; exact List.mem_cons_self)
    · exact .inr (List.mem_cons_of_mem _ h)
theorem foldl_max_le (l : List Int) : ∀ a, a ≤ l.foldl max a ∧ ∀ x ∈ l, x ≤ l.foldl max a := by
  induction l with
  | nil => intro a; exact ⟨Int.le_refl _, fun x h => by cases h⟩
  | cons b l ih =>
    intro a
    obtain ⟨h1, h2⟩ := ih (max a b)
    refine ⟨by show a ≤ l.foldl max (max a b); omega, fun x hx => ?_⟩
    show x ≤ l.foldl max (max a b)
    rcases List.mem_cons.mp hx with e | e
    · subst e; omega
    · exact h2 x e
theorem foldl_max_mem (l : List Int) : ∀ a, l.foldl max a = a ∨ l.foldl max a ∈ l := by
  induction l with
  | nil => intro a; exact .inl rfl
  | cons b l ih =>
    intro a
    show l.foldl max (max a b) = a ∨ l.foldl max (max a b) ∈ b :: l
    rcases ih (max a b) with h | h
    · rw [h]
      by_cases c : b ≤ a
      · exact .inl (by omega)
      · exact .inr (by rw [show max a b = b by omega]; exact List.mem_cons_self)
    · exact .inr (List.mem_cons_of_mem _ h)
theorem minOf_mem {l : List Int} (h : l ≠ []) : minOf l ∈ l := by
  cases l with
  | nil => exact absurd rfl h
  | cons a l =>
    rcases foldl_min_mem l a with e | e
    · show l.foldl min a ∈ _
      rw [e]; exact List.mem_cons_self
    · exact List.mem_cons_of_mem _ e
theorem minOf_le {l : List Int} {x : Int} (h : x ∈ l) : minOf l ≤ x := by
  cases l with
  | nil => cases h
  | cons a l =>
    rcases List.mem_cons.mp h with e | e
    · subst e; exact (foldl_min_le l x).1
    · exact (foldl_min_le l a).2 x e
theorem maxOf_mem {l : List Int} (h : l ≠ []) : maxOf l ∈ l := by
  cases l with
  | nil => exact absurd rfl h
  | cons a l =>
    rcases foldl_max_mem l a with e | e
    · show l.foldl max a ∈ _
      rw [e]; exact List.mem_cons_self
    · exact List.mem_cons_of_mem _ e
theorem le_maxOf {l : List Int} {x : Int} (h : x ∈ l) : x ≤ maxOf l := by
  cases l with
  | nil => cases h
  | cons a l =>
    rcases List.mem_cons.mp h with e | e
    · subst e; exact (foldl_max_le l x).1
    · exact (foldl_max_le l a).2 x e
theorem minOf_is {l : List Int} {m : Int} (h : m ∈ l) (hl : ∀ x ∈ l, m ≤ x) : m = minOf l := by
  have h1 := minOf_le h
  have h2 := hl _ (minOf_mem (List.ne_nil_of_mem h))
  omega
theorem maxOf_is {l : List Int} {m : Int} (h : m ∈ l) (hl : ∀ x ∈ l, x ≤ m) : m = maxOf l := by
  have h1 := le_maxOf h
  have h2 := hl _ (maxOf_mem (List.ne_nil_of_mem h))
  omega
theorem minOf_congr {l l' : List Int} (h : ∀ x, x ∈ l ↔ x ∈ l') : minOf l = minOf l' := by
  by_cases e : l = []
  · subst e
    have : l' = [] := List.eq_nil_iff_forall_not_mem.mpr fun x hx => by cases (h x).mpr hx
    rw [this]
  · exact minOf_is ((h _).mp (minOf_mem e)) fun x hx => minOf_le ((h x).mpr hx)
theorem maxOf_congr {l l' : List Int} (h : ∀ x, x ∈ l ↔ x ∈ l') : maxOf l = maxOf l' := by
  by_cases e : l = []
  · subst e
    have : l' = [] := List.eq_nil_iff_forall_not_mem.mpr fun x hx => by cases (h x).mpr hx
    rw [this]
  · exact maxOf_is ((h _).mp (maxOf_mem e)) fun x hx => le_maxOf ((h x).mpr hx)

/-- a web -/
structure Wb where
  n : Nat
  F : Int → List Int
  S : Int → List Int
  mark : Int → Int
  due : Int → Due

def Due.ok : Due → Prop
  | .no => True
  | .chips x => 0 ≤ x
  | .less x => 0 ≤ x

def Wb.mov (W : Wb) (v : Int) : Bool := !(W.F v).isEmpty

structure Wb.Ok (W : Wb) : Prop where
  pos : 0 < W.n
  fs : ∀ v : Int, 0 ≤ v → v < W.n → (W.F v = [] ↔ W.S v = [])
  fr : ∀ v w : Int, 0 ≤ v → v < W.n → w ∈ W.F v → 0 ≤ w ∧ w < W.n
  sr : ∀ v w : Int, 0 ≤ v → v < W.n → w ∈ W.S v → 0 ≤ w ∧ w < W.n
  mks : ∀ v : Int, 0 ≤ v → v < W.n → W.mark v = 1 ∨ W.mark v = 2
  du : ∀ v : Int, 0 ≤ v → v < W.n → (W.due v).ok

def lo (W : Wb) (f : Int → Int) (v : Int) : Int := minOf ((W.F v).map f)
def hi (W : Wb) (f : Int → Int) (v : Int) : Int := maxOf ((W.S v).map f)
def price (W : Wb) (f : Int → Int) (v : Int) : Int := half (W.mark v) (lo W f v) (hi W f v)

theorem mov_ne {W : Wb} {v : Int} (h : W.mov v = true) : W.F v ≠ [] := by
  unfold Wb.mov at h
  intro e
  rw [e] at h
  cases h
theorem mov_of {W : Wb} {v : Int} (h : W.F v ≠ []) : W.mov v = true := by
  unfold Wb.mov
  cases e : W.F v with
  | nil => exact absurd e h
  | cons a l => rfl
theorem mov_no {W : Wb} {v : Int} (h : W.mov v = false) : W.F v = [] := by
  unfold Wb.mov at h
  cases e : W.F v with
  | nil => rfl
  | cons a l => rw [e] at h; cases h

section
variable {W : Wb} (ok : W.Ok) {v : Int} (h0 : 0 ≤ v) (h1 : v < W.n) (hm : W.mov v = true)
include ok h0 h1 hm
theorem ne_S : W.S v ≠ [] := fun e => mov_ne hm ((ok.fs v h0 h1).mpr e)
omit h0 h1 in
theorem lo_mem (f : Int → Int) : ∃ w ∈ W.F v, f w = lo W f v := by
  have h : minOf ((W.F v).map f) ∈ (W.F v).map f := minOf_mem (by
    intro e
    exact mov_ne hm (List.map_eq_nil_iff.mp e))
  exact List.mem_map.mp h
theorem hi_mem (f : Int → Int) : ∃ w ∈ W.S v, f w = hi W f v := by
  have h : maxOf ((W.S v).map f) ∈ (W.S v).map f := maxOf_mem (by
    intro e
    exact ne_S ok h0 h1 hm (List.map_eq_nil_iff.mp e))
  exact List.mem_map.mp h
end
theorem lo_le {W : Wb} {v w : Int} (f : Int → Int) (h : w ∈ W.F v) : lo W f v ≤ f w := minOf_le (List.mem_map_of_mem h)
theorem le_hi {W : Wb} {v w : Int} (f : Int → Int) (h : w ∈ W.S v) : f w ≤ hi W f v := le_maxOf (List.mem_map_of_mem h)

theorem half_mono {m x y x' y' : Int} (hx : x ≤ x') (hy : y ≤ y') : half m x y ≤ half m x' y' := by
  unfold half
  split <;> omega
theorem half_add {m x y : Int} (i : Int) : half m (x + i) (y + i) = half m x y + i := by
  unfold half
  split <;> omega

section
variable {W : Wb} (ok : W.Ok) {v : Int} (h0 : 0 ≤ v) (h1 : v < W.n) (hm : W.mov v = true)
include ok h0 h1 hm
theorem lo_mono {f g : Int → Int} (h : ∀ w : Int, 0 ≤ w → w < W.n → f w ≤ g w) : lo W f v ≤ lo W g v := by
  obtain ⟨w, hw, e⟩ := lo_mem ok hm g
  have r := ok.fr v w h0 h1 hw
  have := lo_le f hw
  have := h w r.1 r.2
  omega
theorem hi_mono {f g : Int → Int} (h : ∀ w : Int, 0 ≤ w → w < W.n → f w ≤ g w) : hi W f v ≤ hi W g v := by
  obtain ⟨w, hw, e⟩ := hi_mem ok h0 h1 hm f
  have r := ok.sr v w h0 h1 hw
  have := le_hi g hw
  have := h w r.1 r.2
  omega
theorem price_mono {f g : Int → Int} (h : ∀ w : Int, 0 ≤ w → w < W.n → f w ≤ g w) : price W f v ≤ price W g v :=
  half_mono (lo_mono ok h0 h1 hm h) (hi_mono ok h0 h1 hm h)
theorem price_congr {f g : Int → Int} (h : ∀ w : Int, 0 ≤ w → w < W.n → f w = g w) : price W f v = price W g v :=
  Int.le_antisymm (price_mono ok h0 h1 hm fun w a b => Int.le_of_eq (h w a b)) (price_mono ok h0 h1 hm fun w a b => Int.le_of_eq (h w a b).symm)
theorem lo_add (f : Int → Int) (i : Int) : lo W (fun w => f w + i) v = lo W f v + i := by
  obtain ⟨w, hw, e⟩ := lo_mem ok hm f
  obtain ⟨w', hw', e'⟩ := lo_mem ok hm fun w => f w + i
  have := lo_le f hw'
  have := lo_le (fun w => f w + i) hw
  try simp only at *
  omega
theorem hi_add (f : Int → Int) (i : Int) : hi W (fun w => f w + i) v = hi W f v + i := by
  obtain ⟨w, hw, e⟩ := hi_mem ok h0 h1 hm f
  obtain ⟨w', hw', e'⟩ := hi_mem ok h0 h1 hm fun w => f w + i
  have := le_hi f hw'
  have := le_hi (fun w => f w + i) hw
  try simp only at *
  omega
theorem price_add (f : Int → Int) (i : Int) : price W (fun w => f w + i) v = price W f v + i := by
  unfold price
  rw [lo_add ok h0 h1 hm, hi_add ok h0 h1 hm, half_add]
theorem price_const (c : Int) : price W (fun _ => c) v = c := by
  obtain ⟨w, hw, e⟩ := lo_mem ok hm fun _ => c
  obtain ⟨w', hw', e'⟩ := hi_mem ok h0 h1 hm fun _ => c
  unfold price
  rw [← e, ← e']
  unfold half
  split <;> omega
theorem price_le {f : Int → Int} {c : Int} (h : ∀ w : Int, 0 ≤ w → w < W.n → f w ≤ c) : price W f v ≤ c := by
  have := price_mono ok h0 h1 hm (f := f) (g := fun _ => c) h
  rw [price_const ok h0 h1 hm] at this
  exact this
theorem le_price {f : Int → Int} {c : Int} (h : ∀ w : Int, 0 ≤ w → w < W.n → c ≤ f w) : c ≤ price W f v := by
  have := price_mono ok h0 h1 hm (g := f) (f := fun _ => c) h
  rw [price_const ok h0 h1 hm] at this
  exact this
end

theorem dueAt_up (d : Due) (K : Int) (h : d.ok) (hK : 0 ≤ K) : dueAt d K ≤ dueAt d (K + 1) ∧ dueAt d (K + 1) ≤ dueAt d K + 1 := by
  cases d with
  | no => exact ⟨by show K ≤ K + 1; omega, Int.le_refl _⟩
  | chips x => exact ⟨by show min x K ≤ min x (K + 1); omega, by show min x (K + 1) ≤ min x K + 1; omega⟩
  | less x => exact ⟨by show max 0 (K - x) ≤ max 0 (K + 1 - x); omega, by show max 0 (K + 1 - x) ≤ max 0 (K - x) + 1; omega⟩
theorem dueAt_rng (d : Due) (K : Int) (h : d.ok) (hK : 0 ≤ K) : 0 ≤ dueAt d K ∧ dueAt d K ≤ K := by
  cases d with
  | no => exact ⟨hK, Int.le_refl _⟩
  | chips x => exact ⟨by have : 0 ≤ x := h; show 0 ≤ min x K; omega, by show min x K ≤ K; omega⟩
  | less x => exact ⟨by show 0 ≤ max 0 (K - x); omega, by have : 0 ≤ x := h; show max 0 (K - x) ≤ K; omega⟩

/-! ### rounds -/
/-- Z lies under what a round of X at most top may be -/
def PostR (W : Wb) (C : Int → Bool) (K : Int) (X top Z : Int → Int) : Prop :=
  ∀ v : Int, 0 ≤ v → v < W.n → (W.mov v = false → Z v ≤ dueAt (W.due v) K) ∧ (W.mov v = true → C v = true → Z v ≤ price W X v) ∧
    (W.mov v = true → C v = false → Z v ≤ top v ∧ Z v ≤ price W Z v)
structure IsRound (W : Wb) (C : Int → Bool) (K : Int) (X top Y : Int → Int) : Prop where
  post : PostR W C K X top Y
  ends : ∀ v : Int, 0 ≤ v → v < W.n → W.mov v = false → Y v = dueAt (W.due v) K
  calls : ∀ v : Int, 0 ≤ v → v < W.n → W.mov v = true → C v = true → Y v = price W X v
  most : ∀ Z, PostR W C K X top Z → ∀ v : Int, 0 ≤ v → v < W.n → Z v ≤ Y v

def Le (W : Wb) (f g : Int → Int) : Prop := ∀ v : Int, 0 ≤ v → v < W.n → f v ≤ g v
def Eq' (W : Wb) (f g : Int → Int) : Prop := ∀ v : Int, 0 ≤ v → v < W.n → f v = g v
theorem Eq'.le {W : Wb} {f g : Int → Int} (h : Eq' W f g) : Le W f g := fun v a b => Int.le_of_eq (h v a b)
theorem Eq'.symm {W : Wb} {f g : Int → Int} (h : Eq' W f g) : Eq' W g f := fun v a b => (h v a b).symm
theorem Le.antisymm {W : Wb} {f g : Int → Int} (h : Le W f g) (h' : Le W g f) : Eq' W f g := fun v a b => Int.le_antisymm (h v a b) (h' v a b)

section
variable {W : Wb} (ok : W.Ok) {C : Int → Bool} {K : Int} {X X' top top' Y Y' Z : Int → Int}
include ok
theorem PostR.mono (h : PostR W C K X top Z) (hX : Le W X X') (ht : Le W top top') : PostR W C K X' top' Z := fun v h0 h1 =>
  ⟨(h v h0 h1).1, fun hm hc => Int.le_trans ((h v h0 h1).2.1 hm hc) (price_mono ok h0 h1 hm hX), fun hm hc => ⟨Int.le_trans ((h v h0 h1).2.2 hm hc).1 (ht v h0 h1), ((h v h0 h1).2.2 hm hc).2⟩⟩
theorem PostR.up (hK : 0 ≤ K) (h : PostR W C K X (fun _ => K) Z) : PostR W C (K + 1) X (fun _ => K + 1) Z := fun v h0 h1 =>
  ⟨fun hm => Int.le_trans ((h v h0 h1).1 hm) (dueAt_up _ K (ok.du v h0 h1) hK).1, (h v h0 h1).2.1, fun hm hc => ⟨by have := ((h v h0 h1).2.2 hm hc).1; simp only at *; omega, ((h v h0 h1).2.2 hm hc).2⟩⟩
theorem PostR.congr (h : PostR W C K X top Z) (hX : Eq' W X X') (hZ : Eq' W Z Y) : PostR W C K X' top Y := fun v h0 h1 => by
  have e := hZ v h0 h1
  refine ⟨fun hm => ?_, fun hm hc => ?_, fun hm hc => ?_⟩
  · rw [← e]; exact (h v h0 h1).1 hm
  · rw [← e, ← price_congr ok h0 h1 hm hX]; exact (h v h0 h1).2.1 hm hc
  · rw [← e, ← price_congr ok h0 h1 hm hZ]; exact (h v h0 h1).2.2 hm hc
omit ok in
theorem IsRound.uniq (a : IsRound W C K X top Y) (b : IsRound W C K X top Y') : Eq' W Y Y' := fun v h0 h1 =>
  Int.le_antisymm (b.most Y a.post v h0 h1) (a.most Y' b.post v h0 h1)
theorem IsRound.congr (a : IsRound W C K X top Y) (hX : Eq' W X X') (hY : Eq' W Y Y') : IsRound W C K X' top Y' where
  post := a.post.congr ok hX hY
  ends := fun v h0 h1 hm => by rw [← hY v h0 h1]; exact a.ends v h0 h1 hm
  calls := fun v h0 h1 hm hc => by rw [← hY v h0 h1, ← price_congr ok h0 h1 hm hX]; exact a.calls v h0 h1 hm hc
  most := fun Z hZ v h0 h1 => by
    rw [← hY v h0 h1]
    exact a.most Z (hZ.congr ok hX.symm fun _ _ _ => rfl) v h0 h1
end

/-- the row for ever at K = k + 1 -/
def PreFix (W : Wb) (C : Int → Bool) (K : Int) (Z : Int → Int) : Prop := ∀ Y, PostR W C K Z (fun _ => K) Y → Le W Y Z
structure IsEver (W : Wb) (C : Int → Bool) (K : Int) (X : Int → Int) : Prop where
  rng : ∀ v : Int, 0 ≤ v → v < W.n → 0 ≤ X v ∧ X v ≤ K
  fix : IsRound W C K X (fun _ => K) X
  least : ∀ Z, Le W (fun _ => 0) Z → PreFix W C K Z → Le W X Z

section
variable {W : Wb} (ok : W.Ok) {C : Int → Bool} {K : Int} {X X' top top' Y Y' Z : Int → Int}
theorem IsEver.pre (h : IsEver W C K X) : PreFix W C K X := fun Y hY => h.fix.most Y hY
theorem IsEver.uniq (a : IsEver W C K X) (b : IsEver W C K Y) : Eq' W X Y :=
  (a.least Y (fun v h0 h1 => (b.rng v h0 h1).1) b.pre).antisymm (b.least X (fun v h0 h1 => (a.rng v h0 h1).1) a.pre)
include ok
theorem IsEver.congr (a : IsEver W C K X) (h : Eq' W X Y) : IsEver W C K Y where
  rng := fun v h0 h1 => by rw [← h v h0 h1]; exact a.rng v h0 h1
  fix := a.fix.congr ok h h
  least := fun Z h0 hZ v a0 a1 => by rw [← h v a0 a1]; exact a.least Z h0 hZ v a0 a1
theorem PreFix.post (hZ : PreFix W C K Z) (hX : Le W X Z) (h : PostR W C K X (fun _ => K) Y) : Le W Y Z := hZ Y (h.mono ok hX fun _ _ _ => Int.le_refl _)
theorem PreFix.down (hK : 0 ≤ K) (hZ : PreFix W C (K + 1) Z) : PreFix W C K Z := fun Y hY => hZ Y (hY.up ok hK)

/-- the row at K = 0 -/
theorem ever_zero : IsEver W C 0 (fun _ => 0) where
  rng := fun _ _ _ => ⟨Int.le_refl _, Int.le_refl _⟩
  fix := by
    have e : ∀ v : Int, 0 ≤ v → v < W.n → dueAt (W.due v) 0 = 0 := fun v h0 h1 => by
      have := dueAt_rng (W.due v) 0 (ok.du v h0 h1) (Int.le_refl _)
      omega
    refine ⟨fun v h0 h1 => ⟨fun _ => by rw [e v h0 h1]; exact Int.le_refl _, fun hm _ => by rw [price_const ok h0 h1 hm]; exact Int.le_refl _, fun hm _ => ⟨Int.le_refl _, by rw [price_const ok h0 h1 hm]; exact Int.le_refl _⟩⟩,
      fun v h0 h1 _ => (e v h0 h1).symm, fun v h0 h1 hm _ => (price_const ok h0 h1 hm 0).symm, fun Z hZ v h0 h1 => ?_⟩
    obtain ⟨a, b, c⟩ := hZ v h0 h1
    cases hm : W.mov v with
    | false => have := a hm; rw [e v h0 h1] at this; exact this
    | true =>
      cases hc : C v with
      | true => have := b hm hc; rw [price_const ok h0 h1 hm] at this; exact this
      | false => exact (c hm hc).1
  least := fun Z h0 _ => h0

/-! ### rises -/
/-- the row X at K; a state of the rising loop: W' = X or X + 1 -/
structure Rising (W : Wb) (C : Int → Bool) (K : Int) (X U : Int → Int) : Prop where
  up : Le W X U
  one : Le W U (fun v => X v + 1)
  post : PostR W C (K + 1) U (fun v => X v + 1) U
  low : ∀ Z, Le W (fun _ => 0) Z → PreFix W C (K + 1) Z → Le W U Z
theorem rising_start (hK : 0 ≤ K) (a : IsEver W C K X) : Rising W C K X X where
  up := fun _ _ _ => Int.le_refl _
  one := fun v _ _ => by simp only; omega
  post := fun v h0 h1 => by
    obtain ⟨p, q, r⟩ := a.fix.post v h0 h1
    exact ⟨fun hm => Int.le_trans (p hm) (dueAt_up _ K (ok.du v h0 h1) hK).1, q, fun hm hc => ⟨by simp only; omega, (r hm hc).2⟩⟩
  low := fun Z h0 hZ => a.least Z h0 (hZ.down ok hK)
theorem rising_le (hK : 0 ≤ K) (a : IsEver W C K X) {U G : Int → Int} (r : Rising W C K X U) (g : IsRound W C (K + 1) U (fun v => X v + 1) G) : Le W U G ∧ Le W G (fun v => X v + 1) := by
  refine ⟨fun v h0 h1 => g.most U r.post v h0 h1, fun v h0 h1 => ?_⟩
  simp only
  cases hm : W.mov v with
  | false =>
    have := g.ends v h0 h1 hm
    have := a.fix.ends v h0 h1 hm
    have := (dueAt_up _ K (ok.du v h0 h1) hK).2
    omega
  | true =>
    cases hc : C v with
    | true =>
      have e1 := g.calls v h0 h1 hm hc
      have e2 := a.fix.calls v h0 h1 hm hc
      have e3 := price_mono ok h0 h1 hm r.one
      rw [price_add ok h0 h1 hm] at e3
      omega
    | false => exact ((g.post v h0 h1).2.2 hm hc).1
theorem rising_step (hK : 0 ≤ K) (a : IsEver W C K X) {U G : Int → Int} (r : Rising W C K X U) (g : IsRound W C (K + 1) U (fun v => X v + 1) G) : Rising W C K X G where
  up := fun v h0 h1 => Int.le_trans (r.up v h0 h1) ((rising_le ok hK a r g).1 v h0 h1)
  one := (rising_le ok hK a r g).2
  post := g.post.mono ok (rising_le ok hK a r g).1 fun _ _ _ => Int.le_refl _
  low := fun Z h0 hZ => hZ.post ok (r.low Z h0 hZ) (g.post.mono ok (fun _ _ _ => Int.le_refl _) fun v a0 a1 => by
    have := (a.rng v a0 a1).2
    simp only
    omega)
theorem Rising.congr {U U' : Int → Int} (r : Rising W C K X U) (e : Eq' W U U') : Rising W C K X U' where
  up := fun v h0 h1 => by rw [← e v h0 h1]; exact r.up v h0 h1
  one := fun v h0 h1 => by rw [← e v h0 h1]; exact r.one v h0 h1
  post := r.post.congr ok e e
  low := fun Z h0 hZ v a0 a1 => by rw [← e v a0 a1]; exact r.low Z h0 hZ v a0 a1
/-- when nothing more rises -/
theorem rising_end (hK : 0 ≤ K) (a : IsEver W C K X) {U G : Int → Int} (r : Rising W C K X U) (g : IsRound W C (K + 1) U (fun v => X v + 1) G) (e : Le W G U) : IsEver W C (K + 1) U where
  rng := fun v h0 h1 => by
    have := r.up v h0 h1
    have := r.one v h0 h1
    have := a.rng v h0 h1
    simp only at *
    omega
  fix := by
    have eq : Eq' W G U := e.antisymm (rising_le ok hK a r g).1
    have g' := g.congr ok (fun _ _ _ => rfl) eq
    refine ⟨g'.post.mono ok (fun _ _ _ => Int.le_refl _) (fun v h0 h1 => ?_), g'.ends, g'.calls, fun Z hZ v h0 h1 => ?_⟩
    · have := (a.rng v h0 h1).2
      simp only
      omega
    · have z1 : Le W (fun v => Z v - 1) X := by
        refine a.fix.most _ fun v h0 h1 => ?_
        obtain ⟨p, q, t⟩ := hZ v h0 h1
        refine ⟨fun hm => ?_, fun hm hc => ?_, fun hm hc => ?_⟩
        · have := p hm
          have := (dueAt_up _ K (ok.du v h0 h1) hK).2
          try simp only
          omega
        · have e1 := q hm hc
          have e2 := price_mono ok h0 h1 hm r.one
          rw [price_add ok h0 h1 hm] at e2
          try simp only
          omega
        · have e1 := t hm hc
          have e2 := price_add ok h0 h1 hm Z (-1)
          have e3 : (fun w => Z w + -1) = fun w => Z w - 1 := by funext w; omega
          rw [e3] at e2
          simp only at *
          omega
      refine g'.most Z (fun v h0 h1 => ?_) v h0 h1
      obtain ⟨p, q, t⟩ := hZ v h0 h1
      exact ⟨p, q, fun hm hc => ⟨by have := z1 v h0 h1; simp only at *; omega, (t hm hc).2⟩⟩
  least := r.low

/-! ### the visit rows from 0 -/
structure Visit (W : Wb) (C : Int → Bool) (K : Int) (X : Int → Int) : Prop where
  rng : ∀ v : Int, 0 ≤ v → v < W.n → 0 ≤ X v ∧ X v ≤ K
  post : PostR W C K X (fun _ => K) X
  low : ∀ Z, Le W (fun _ => 0) Z → PreFix W C K Z → Le W X Z
theorem visit_start (hK : 0 ≤ K) : Visit W C K (fun _ => 0) where
  rng := fun _ _ _ => ⟨Int.le_refl _, hK⟩
  post := fun v h0 h1 => ⟨fun _ => (dueAt_rng _ K (ok.du v h0 h1) hK).1, fun hm _ => by rw [price_const ok h0 h1 hm]; exact Int.le_refl _, fun hm _ => ⟨hK, by rw [price_const ok h0 h1 hm]; exact Int.le_refl _⟩⟩
  low := fun Z h0 _ => h0
/-- a round of a row in range lies in range -/
theorem round_rng (hK : 0 ≤ K) (hX : ∀ v : Int, 0 ≤ v → v < W.n → 0 ≤ X v ∧ X v ≤ K) (ht : ∀ v : Int, 0 ≤ v → v < W.n → 0 ≤ top v ∧ top v ≤ K) (g : IsRound W C K X top Y) : ∀ v : Int, 0 ≤ v → v < W.n → 0 ≤ Y v ∧ Y v ≤ K := fun v h0 h1 => by
  refine ⟨g.most (fun _ => 0) (fun v h0 h1 => ?_) v h0 h1, ?_⟩
  · exact ⟨fun _ => (dueAt_rng _ K (ok.du v h0 h1) hK).1, fun hm _ => le_price ok h0 h1 hm fun w a b => (hX w a b).1, fun hm _ => ⟨(ht v h0 h1).1, by rw [price_const ok h0 h1 hm]; exact Int.le_refl _⟩⟩
  · cases hm : W.mov v with
    | false => rw [g.ends v h0 h1 hm]; exact (dueAt_rng _ K (ok.du v h0 h1) hK).2
    | true =>
      cases hc : C v with
      | true => rw [g.calls v h0 h1 hm hc]; exact price_le ok h0 h1 hm fun w a b => (hX w a b).2
      | false => exact Int.le_trans ((g.post v h0 h1).2.2 hm hc).1 (ht v h0 h1).2
theorem visit_step (hK : 0 ≤ K) {G : Int → Int} (x : Visit W C K X) (g : IsRound W C K X (fun _ => K) G) : Le W X G ∧ Visit W C K G := by
  have l : Le W X G := g.most X x.post
  exact ⟨l, round_rng ok hK x.rng (fun _ _ _ => ⟨hK, Int.le_refl _⟩) g, g.post.mono ok l fun _ _ _ => Int.le_refl _, fun Z h0 hZ => hZ.post ok (x.low Z h0 hZ) g.post⟩
theorem visit_end {G : Int → Int} (x : Visit W C K X) (g : IsRound W C K X (fun _ => K) G) (e : Eq' W G X) : IsEver W C K X :=
  ⟨x.rng, g.congr ok (fun _ _ _ => rfl) e, x.low⟩
end
end Pw
end

section
/-! Further mathematics: how a round is found, falling out, both plans. -/
namespace Pw
/-! ### sums -/
def sumTo : Nat → (Int → Int) → Nat
  | 0, _ => 0
  | n + 1, f => sumTo n f + (f (n : Int)).toNat
theorem sumTo_le {f g : Int → Int} : ∀ n : Nat, (∀ v : Int, 0 ≤ v → v < n → f v ≤ g v) → sumTo n f ≤ sumTo n g
  | 0, _ => Nat.le_refl _
  | n + 1, h => by
    have h1 := sumTo_le (f := f) (g := g) n fun v a b => h v a (by omega)
    have h2 := h (n : Int) (by omega) (by omega)
    show sumTo n f + (f n).toNat ≤ sumTo n g + (g n).toNat
    omega
theorem sumTo_lt {f g : Int → Int} : ∀ n : Nat, (∀ v : Int, 0 ≤ v → v < n → 0 ≤ f v ∧ f v ≤ g v) → (∃ v : Int, 0 ≤ v ∧ v < n ∧ f v < g v) → sumTo n f < sumTo n g
  | 0, _, ⟨v, h0, h1, _⟩ => by omega
  | n + 1, h, ⟨v, h0, h1, h2⟩ => by
    have hn := h (n : Int) (by omega) (by omega)
    show sumTo n f + (f n).toNat < sumTo n g + (g n).toNat
    by_cases e : v = n
    · subst e
      have h3 := sumTo_le (f := f) (g := g) n fun v a b => (h v a (by omega)).2
      omega
    · have h3 := sumTo_lt (f := f) (g := g) n (fun v a b => h v a (by omega)) ⟨v, h0, by omega, h2⟩
      omega
theorem sumTo_bound {f : Int → Int} {K : Int} : ∀ n : Nat, (∀ v : Int, 0 ≤ v → v < n → f v ≤ K) → sumTo n f ≤ n * K.toNat
  | 0, _ => by show 0 ≤ _; exact Nat.zero_le _
  | n + 1, h => by
    have h1 := sumTo_bound (f := f) (K := K) n fun v a b => h v a (by omega)
    have h2 := h (n : Int) (by omega) (by omega)
    show sumTo n f + (f n).toNat ≤ (n + 1) * K.toNat
    rw [Nat.succ_mul]
    omega
/-! ### a round is found from above -/
def fre (W : Wb) (C : Int → Bool) (v : Int) : Bool := W.mov v && !C v
structure RU (W : Wb) (C : Int → Bool) (K : Int) (X top f : Int → Int) : Prop where
  ends : ∀ v : Int, 0 ≤ v → v < W.n → W.mov v = false → f v = dueAt (W.due v) K
  calls : ∀ v : Int, 0 ≤ v → v < W.n → W.mov v = true → C v = true → f v = price W X v
  le : ∀ v : Int, 0 ≤ v → v < W.n → W.mov v = true → C v = false → f v ≤ top v
  nn : ∀ v : Int, 0 ≤ v → v < W.n → 0 ≤ f v
  gr : ∀ Z, PostR W C K X top Z → Le W Z f
def stepF (W : Wb) (C : Int → Bool) (f : Int → Int) : Int → Int := fun v => if fre W C v = true ∧ price W f v < f v then price W f v else f v
section
variable {W : Wb} (ok : W.Ok) {C : Int → Bool} {K : Int} {X top f : Int → Int}
theorem fre_iff {v : Int} : fre W C v = true ↔ W.mov v = true ∧ C v = false := by
  unfold fre
  cases W.mov v <;> cases C v <;> simp
include ok
theorem RU.start (hK : 0 ≤ K) (hX : ∀ v : Int, 0 ≤ v → v < W.n → 0 ≤ X v) (ht : ∀ v : Int, 0 ≤ v → v < W.n → 0 ≤ top v)
    (hf : ∀ v : Int, 0 ≤ v → v < W.n → f v = if W.mov v = true then (if C v = true then price W X v else top v) else dueAt (W.due v) K) : RU W C K X top f where
  ends := fun v h0 h1 hm => by rw [hf v h0 h1, if_neg (by rw [hm]; exact Bool.false_ne_true)]
  calls := fun v h0 h1 hm hc => by rw [hf v h0 h1, if_pos hm, if_pos hc]
  le := fun v h0 h1 hm hc => by rw [hf v h0 h1, if_pos hm, if_neg (by rw [hc]; exact Bool.false_ne_true)]; exact Int.le_refl _
  nn := fun v h0 h1 => by
    rw [hf v h0 h1]
    split
    · split
      · rename_i hm _
        exact le_price ok h0 h1 hm fun w a b => hX w a b
      · exact ht v h0 h1
    · exact (dueAt_rng _ K (ok.du v h0 h1) hK).1
  gr := fun Z hZ v h0 h1 => by
    obtain ⟨p, q, r⟩ := hZ v h0 h1
    rw [hf v h0 h1]
    cases hm : W.mov v with
    | false => rw [if_neg Bool.false_ne_true]; exact p hm
    | true =>
      rw [if_pos rfl]
      cases hc : C v with
      | true => rw [if_pos rfl]; exact q hm hc
      | false => rw [if_neg Bool.false_ne_true]; exact (r hm hc).1
omit ok in
theorem stepF_le (v : Int) : stepF W C f v ≤ f v := by
  unfold stepF
  split
  · rename_i h; omega
  · exact Int.le_refl _
theorem RU.step (h : RU W C K X top f) : RU W C K X top (stepF W C f) where
  ends := fun v h0 h1 hm => by
    unfold stepF
    rw [if_neg (fun z => by rw [(fre_iff.mp z.1).1] at hm; cases hm)]
    exact h.ends v h0 h1 hm
  calls := fun v h0 h1 hm hc => by
    unfold stepF
    rw [if_neg (fun z => by rw [(fre_iff.mp z.1).2] at hc; cases hc)]
    exact h.calls v h0 h1 hm hc
  le := fun v h0 h1 hm hc => Int.le_trans (stepF_le v) (h.le v h0 h1 hm hc)
  nn := fun v h0 h1 => by
    unfold stepF
    split
    · rename_i z
      exact le_price ok h0 h1 (fre_iff.mp z.1).1 fun w a b => h.nn w a b
    · exact h.nn v h0 h1
  gr := fun Z hZ v h0 h1 => by
    have g := h.gr Z hZ
    unfold stepF
    split
    · rename_i z
      obtain ⟨hm, hc⟩ := fre_iff.mp z.1
      exact Int.le_trans ((hZ v h0 h1).2.2 hm hc).2 (price_mono ok h0 h1 hm g)
    · exact g v h0 h1
omit ok in
theorem RU.stop (h : RU W C K X top f) (hs : ∀ v : Int, 0 ≤ v → v < W.n → fre W C v = true → f v ≤ price W f v) : IsRound W C K X top f where
  post := fun v h0 h1 => ⟨fun hm => Int.le_of_eq (h.ends v h0 h1 hm), fun hm hc => Int.le_of_eq (h.calls v h0 h1 hm hc), fun hm hc => ⟨h.le v h0 h1 hm hc, hs v h0 h1 (fre_iff.mpr ⟨hm, hc⟩)⟩⟩
  ends := h.ends
  calls := h.calls
  most := fun Z hZ => h.gr Z hZ
theorem RU.sum (h : RU W C K X top f) (hs : ∃ v : Int, 0 ≤ v ∧ v < W.n ∧ fre W C v = true ∧ price W f v < f v) : sumTo W.n (stepF W C f) < sumTo W.n f := by
  obtain ⟨v, h0, h1, hf, hp⟩ := hs
  refine sumTo_lt W.n (fun v h0 h1 => ⟨(RU.step ok h).nn v h0 h1, stepF_le v⟩) ⟨v, h0, h1, ?_⟩
  unfold stepF
  rw [if_pos ⟨hf, hp⟩]
  exact hp
theorem RU.congr {f' : Int → Int} (h : RU W C K X top f) (e : Eq' W f f') : RU W C K X top f' where
  ends := fun v h0 h1 hm => by rw [← e v h0 h1]; exact h.ends v h0 h1 hm
  calls := fun v h0 h1 hm hc => by rw [← e v h0 h1]; exact h.calls v h0 h1 hm hc
  le := fun v h0 h1 hm hc => by rw [← e v h0 h1]; exact h.le v h0 h1 hm hc
  nn := fun v h0 h1 => by rw [← e v h0 h1]; exact h.nn v h0 h1
  gr := fun Z hZ v h0 h1 => by rw [← e v h0 h1]; exact h.gr Z hZ v h0 h1
end
/-! ### told bids -/
def pick (l : List Int) (p : Int → Bool) : Int := minOf (l.filter p)
def m1 (W : Wb) (v : Int) : Int := if W.mark v = 1 then 1 else 0
def toldB1 (W : Wb) (h : Int → Int) (v a : Int) : Int := max 0 (hi W h v - a - m1 W v)
def toldS1 (W : Wb) (h : Int → Int) (v : Int) : Int := pick (W.F v) fun w => decide (h w = lo W h v)
def toldB2 (W : Wb) (h : Int → Int) (v a : Int) : Int := max 0 (a - lo W h v + m1 W v)
def toldS2 (W : Wb) (h : Int → Int) (v : Int) : Int := pick (W.S v) fun w => decide (h w = hi W h v)
end Pw
end

section
/-! Falling out; ranks and counts; what both plans keep. -/
namespace Pw
/-! ### a round exists -/
section
variable {W : Wb} (ok : W.Ok) {C : Int → Bool} {K : Int} {X top : Int → Int}
include ok
theorem ex_round_aux : ∀ (m : Nat) (f : Int → Int), sumTo W.n f ≤ m → RU W C K X top f → ∃ Y, IsRound W C K X top Y := by
  intro m
  induction m with
  | zero =>
    intro f hm ru
    by_cases h : ∃ v : Int, 0 ≤ v ∧ v < W.n ∧ fre W C v = true ∧ price W f v < f v
    · have := RU.sum ok ru h
      omega
    · exact ⟨f, ru.stop fun v h0 h1 h2 => Int.not_lt.mp fun z => h ⟨v, h0, h1, h2, z⟩⟩
  | succ m ih =>
    intro f hm ru
    by_cases h : ∃ v : Int, 0 ≤ v ∧ v < W.n ∧ fre W C v = true ∧ price W f v < f v
    · have := RU.sum ok ru h
      exact ih _ (by omega) (RU.step ok ru)
    · exact ⟨f, ru.stop fun v h0 h1 h2 => Int.not_lt.mp fun z => h ⟨v, h0, h1, h2, z⟩⟩
theorem ex_round (hK : 0 ≤ K) (hX : ∀ v : Int, 0 ≤ v → v < W.n → 0 ≤ X v) (ht : ∀ v : Int, 0 ≤ v → v < W.n → 0 ≤ top v) : ∃ Y, IsRound W C K X top Y :=
  ex_round_aux ok _ _ (Nat.le_refl _) (RU.start ok hK hX ht (f := fun v => if W.mov v = true then (if C v = true then price W X v else top v) else dueAt (W.due v) K) fun v _ _ => rfl)
end
/-- a round of X at most K, by name -/
noncomputable def rnd (W : Wb) (C : Int → Bool) (K : Int) (X : Int → Int) : Int → Int := Classical.epsilon fun Y => IsRound W C K X (fun _ => K) Y
theorem rnd_eq {W : Wb} {C : Int → Bool} {K : Int} {X Y : Int → Int} (h : IsRound W C K X (fun _ => K) Y) : Eq' W (rnd W C K X) Y := IsRound.uniq (Classical.epsilon_spec (p := fun Y => IsRound W C K X (fun _ => K) Y) ⟨Y, h⟩) h

/-! ### falling out, turn by turn -/
section
variable (lv : List Int → Int → Bool) (l0 : List Int)
def lft : Nat → List Int
  | 0 => l0
  | i + 1 => (lft i).filter fun v => !lv (lft i) v
def rnk : Nat → Int → Int
  | 0 => fun _ => 0
  | i + 1 => fun v => if v ∈ lft lv l0 i ∧ lv (lft lv l0 i) v = true then (i : Int) + 1 else rnk i v
end
section
variable {lv : List Int → Int → Bool} {l0 : List Int}
theorem lft_sub {i : Nat} {v : Int} (h : v ∈ lft lv l0 (i + 1)) : v ∈ lft lv l0 i ∧ lv (lft lv l0 i) v = false := by
  have := List.mem_filter.mp (show v ∈ (lft lv l0 i).filter fun v => !lv (lft lv l0 i) v from h)
  exact ⟨this.1, by simpa using this.2⟩
theorem lft_anti {i : Nat} {v : Int} : ∀ {j : Nat}, i ≤ j → v ∈ lft lv l0 j → v ∈ lft lv l0 i
  | 0, h, m => by
    have : i = 0 := by omega
    subst this
    exact m
  | j + 1, h, m => by
    by_cases e : i = j + 1
    · subst e; exact m
    · exact lft_anti (j := j) (by omega) (lft_sub m).1
theorem lft_len (sm : ∀ i, lft lv l0 i ≠ [] → ∃ v ∈ lft lv l0 i, lv (lft lv l0 i) v = true) : ∀ i, (lft lv l0 i).length + i ≤ l0.length ∨ lft lv l0 i = []
  | 0 => .inl (Nat.le_refl _)
  | i + 1 => by
    by_cases e : lft lv l0 i = []
    · right
      show (lft lv l0 i).filter _ = []
      rw [e]
      rfl
    · rcases lft_len sm i with h | h
      · left
        obtain ⟨v, hv, hl⟩ := sm i e
        have : ((lft lv l0 i).filter fun v => !lv (lft lv l0 i) v).length < (lft lv l0 i).length := by
          refine List.length_filter_lt_length_iff_exists.mpr ⟨v, hv, ?_⟩
          simp [hl]
        have e2 : (lft lv l0 (i + 1)).length = ((lft lv l0 i).filter fun v => !lv (lft lv l0 i) v).length := rfl
        omega
      · exact absurd h e
theorem lft_end (sm : ∀ i, lft lv l0 i ≠ [] → ∃ v ∈ lft lv l0 i, lv (lft lv l0 i) v = true) {n : Nat} (hn : l0.length ≤ n) : lft lv l0 n = [] := by
  rcases lft_len sm n with h | h
  · exact List.eq_nil_of_length_eq_zero (by omega)
  · exact h
theorem rnk_stay {i : Nat} (h : lft lv l0 i = []) : ∀ j, i ≤ j → lft lv l0 j = [] ∧ rnk lv l0 j = rnk lv l0 i
  | 0, hj => by
    have : i = 0 := by omega
    subst this
    exact ⟨h, rfl⟩
  | j + 1, hj => by
    by_cases e : i = j + 1
    · subst e; exact ⟨h, rfl⟩
    · obtain ⟨h1, h2⟩ := rnk_stay h j (by omega)
      refine ⟨?_, ?_⟩
      · show (lft lv l0 j).filter _ = []
        rw [h1]
        rfl
      · funext v
        show (if v ∈ lft lv l0 j ∧ lv (lft lv l0 j) v = true then (j : Int) + 1 else rnk lv l0 j v) = _
        rw [h1, if_neg (fun z => by cases z.1), h2]
theorem rnk_spec (v : Int) : ∀ i, (v ∈ lft lv l0 i ∧ rnk lv l0 i v = 0) ∨ (v ∉ l0 ∧ rnk lv l0 i v = 0) ∨ ∃ j : Nat, j < i ∧ rnk lv l0 i v = (j : Int) + 1 ∧ v ∈ lft lv l0 j ∧ lv (lft lv l0 j) v = true
  | 0 => by
    by_cases h : v ∈ l0
    · exact .inl ⟨h, rfl⟩
    · exact .inr (.inl ⟨h, rfl⟩)
  | i + 1 => by
    have e : rnk lv l0 (i + 1) v = if v ∈ lft lv l0 i ∧ lv (lft lv l0 i) v = true then (i : Int) + 1 else rnk lv l0 i v := rfl
    rcases rnk_spec v i with ⟨h1, h2⟩ | ⟨h1, h2⟩ | ⟨j, hj, h1, h2, h3⟩
    · cases hl : lv (lft lv l0 i) v with
      | true => exact .inr (.inr ⟨i, by omega, by rw [e, if_pos ⟨h1, hl⟩], h1, hl⟩)
      | false =>
        refine .inl ⟨List.mem_filter.mpr ⟨h1, by simp [hl]⟩, ?_⟩
        rw [e, if_neg (fun z => by rw [hl] at z; cases z.2), h2]
    · refine .inr (.inl ⟨h1, ?_⟩)
      rw [e, if_neg (fun z => h1 (lft_anti (Nat.zero_le i) z.1)), h2]
    · refine .inr (.inr ⟨j, by omega, ?_, h2, h3⟩)
      rw [e, if_neg (fun z => ?_), h1]
      have := lft_anti (show j + 1 ≤ i by omega) z.1
      rw [(lft_sub this).2] at h3
      cases h3
theorem rnk_in {T : Nat} (h : lft lv l0 T = []) {v : Int} {i : Nat} : v ∈ lft lv l0 i ↔ (i : Int) < rnk lv l0 T v := by
  rcases rnk_spec (lv := lv) (l0 := l0) v T with ⟨h1, h2⟩ | ⟨h1, h2⟩ | ⟨j, hj, h1, h2, h3⟩
  · rw [h] at h1; cases h1
  · constructor
    · intro z
      exact absurd (lft_anti (Nat.zero_le i) z) h1
    · intro z
      omega
  · constructor
    · intro z
      by_cases c : i ≤ j
      · omega
      · have := lft_anti (show j + 1 ≤ i by omega) z
        rw [(lft_sub this).2] at h3
        cases h3
    · intro z
      exact lft_anti (show i ≤ j by omega) h2
theorem rnk_nn (v : Int) (i : Nat) : 0 ≤ rnk lv l0 i v := by
  rcases rnk_spec (lv := lv) (l0 := l0) v i with ⟨_, h2⟩ | ⟨_, h2⟩ | ⟨j, _, h1, _, _⟩ <;> omega
end
/-! ### ranks -/
def up1 (X : Int → Int) (p : Int → Bool) : Int → Int := fun v => if p v = true then X v + 1 else X v
def dn1 (X : Int → Int) (p : Int → Bool) : Int → Int := fun v => if p v = true then X v - 1 else X v
def lvR (W : Wb) (X : Int → Int) : List Int → Int → Bool := fun l v => decide (price W (up1 X fun w => l.contains w) v ≤ X v)
def l0R (W : Wb) (C : Int → Bool) (K : Int) (X : Int → Int) : List Int := (ran' W.n).filter fun v => W.mov v && (!C v && decide (X v < K))
  where ran' (n : Nat) : List Int := (List.range n).map fun (i : Nat) => (i : Int)
theorem mem_l0R {W : Wb} {C : Int → Bool} {K : Int} {X : Int → Int} {v : Int} : v ∈ l0R W C K X ↔ 0 ≤ v ∧ v < W.n ∧ W.mov v = true ∧ C v = false ∧ X v < K := by
  unfold l0R l0R.ran'
  rw [List.mem_filter, List.mem_map]
  simp only [Bool.and_eq_true, Bool.not_eq_true', decide_eq_true_eq]
  constructor
  · rintro ⟨⟨i, hi, rfl⟩, h⟩
    have := List.mem_range.mp hi
    exact ⟨by omega, by omega, h.1, h.2.1, h.2.2⟩
  · rintro ⟨h0, h1, h2⟩
    exact ⟨⟨v.toNat, List.mem_range.mpr (by omega), by omega⟩, h2⟩
theorem l0R_len (W : Wb) (C : Int → Bool) (K : Int) (X : Int → Int) : (l0R W C K X).length ≤ W.n := by
  unfold l0R l0R.ran'
  exact Nat.le_trans (List.length_filter_le _ _) (by simp)
theorem someR {W : Wb} (ok : W.Ok) {C : Int → Bool} {K : Int} {X : Int → Int} (h : IsEver W C K X) : ∀ i, lft (lvR W X) (l0R W C K X) i ≠ [] → ∃ v ∈ lft (lvR W X) (l0R W C K X) i, lvR W X (lft (lvR W X) (l0R W C K X) i) v = true := by
  intro i hne
  have sub : ∀ v, v ∈ lft (lvR W X) (l0R W C K X) i → 0 ≤ v ∧ v < W.n ∧ W.mov v = true ∧ C v = false ∧ X v < K := fun v hv => mem_l0R.mp (lft_anti (Nat.zero_le i) hv)
  generalize lft (lvR W X) (l0R W C K X) i = l at hne sub
  apply Classical.byContradiction
  intro no
  have hno : ∀ v ∈ l, X v < price W (up1 X fun w => l.contains w) v := fun v hv => Int.not_le.mp fun z => no ⟨v, hv, decide_eq_true z⟩
  have up : Le W X (up1 X fun w => l.contains w) := fun v _ _ => by unfold up1; split <;> omega
  have key := h.fix.most (up1 X fun w => l.contains w) fun v h0 h1 => by
    obtain ⟨p, q, r⟩ := h.fix.post v h0 h1
    by_cases hv : l.contains v = true
    · have hs := sub v (List.contains_iff_mem.mp hv)
      have e : up1 X (fun w => l.contains w) v = X v + 1 := by unfold up1; rw [if_pos hv]
      refine ⟨fun hm => (by rw [hs.2.2.1] at hm; cases hm), fun _ hc => (by rw [hs.2.2.2.1] at hc; cases hc), fun hm hc => ?_⟩
      rw [e]
      have := hno v (List.contains_iff_mem.mp hv)
      exact ⟨by show X v + 1 ≤ K; omega, by omega⟩
    · have e : up1 X (fun w => l.contains w) v = X v := by unfold up1; rw [if_neg hv]
      rw [e]
      exact ⟨p, q, fun hm hc => ⟨(r hm hc).1, Int.le_trans (r hm hc).2 (price_mono ok h0 h1 hm up)⟩⟩
  cases e : l with
  | nil => exact hne e
  | cons a t =>
    have ha : a ∈ l := by rw [e]; exact List.mem_cons_self
    have hs := sub a ha
    have := key a hs.1 hs.2.1
    have e2 : up1 X (fun w => l.contains w) a = X a + 1 := by unfold up1; rw [if_pos (List.contains_iff_mem.mpr ha)]
    omega
/-- what ranks are -/
structure Upper (W : Wb) (C : Int → Bool) (K : Int) (X rk : Int → Int) : Prop where
  nn : ∀ v : Int, 0 ≤ v → v < W.n → 0 ≤ rk v
  pos : ∀ v : Int, 0 ≤ v → v < W.n → 1 ≤ rk v → W.mov v = true ∧ C v = false ∧ price W (up1 X fun w => decide (rk v ≤ rk w)) v ≤ X v
  zero : ∀ v : Int, 0 ≤ v → v < W.n → rk v = 0 → W.mov v = true → C v = false → K ≤ X v
theorem upper_of {W : Wb} (ok : W.Ok) {C : Int → Bool} {K : Int} {X : Int → Int} {T : Nat} (h : lft (lvR W X) (l0R W C K X) T = []) : Upper W C K X (rnk (lvR W X) (l0R W C K X) T) where
  nn := fun v _ _ => rnk_nn v T
  pos := fun v h0 h1 h2 => by
    rcases rnk_spec (lv := lvR W X) (l0 := l0R W C K X) v T with ⟨_, z⟩ | ⟨_, z⟩ | ⟨j, hj, e1, e2, e3⟩
    · omega
    · omega
    · have hs := mem_l0R.mp (lft_anti (Nat.zero_le j) e2)
      refine ⟨hs.2.2.1, hs.2.2.2.1, ?_⟩
      have := of_decide_eq_true e3
      refine Int.le_trans (Int.le_of_eq (price_congr ok h0 h1 hs.2.2.1 fun w a b => ?_)) this
      unfold up1
      rw [e1]
      have := rnk_in h (v := w) (i := j)
      by_cases c : (j : Int) < rnk (lvR W X) (l0R W C K X) T w
      · rw [if_pos (decide_eq_true (by omega)), if_pos (List.contains_iff_mem.mpr (this.mpr c))]
      · rw [if_neg (by simp; omega), if_neg fun z => c (this.mp (List.contains_iff_mem.mp z))]
  zero := fun v h0 h1 h2 hm hc => Int.not_lt.mp fun z => by
    have := (rnk_in h (v := v) (i := 0)).mp (mem_l0R.mpr ⟨h0, h1, hm, hc, z⟩)
    omega
/-! ### counts -/
noncomputable def lvC (W : Wb) (C : Int → Bool) (K : Int) (X : Int → Int) : List Int → Int → Bool := fun l v => decide (X v ≤ rnd W C K (dn1 X fun w => l.contains w) v)
def l0C (W : Wb) (X : Int → Int) : List Int := (l0R.ran' W.n).filter fun v => W.mov v && decide (1 ≤ X v)
theorem mem_l0C {W : Wb} {X : Int → Int} {v : Int} : v ∈ l0C W X ↔ 0 ≤ v ∧ v < W.n ∧ W.mov v = true ∧ 1 ≤ X v := by
  unfold l0C l0R.ran'
  rw [List.mem_filter, List.mem_map]
  simp only [Bool.and_eq_true, Bool.not_eq_true', decide_eq_true_eq]
  constructor
  · rintro ⟨⟨i, hi, rfl⟩, h⟩
    have := List.mem_range.mp hi
    exact ⟨by omega, by omega, h⟩
  · rintro ⟨h0, h1, h2⟩
    exact ⟨⟨v.toNat, List.mem_range.mpr (by omega), by omega⟩, h2⟩
theorem l0C_len (W : Wb) (X : Int → Int) : (l0C W X).length ≤ W.n := by
  unfold l0C l0R.ran'
  exact Nat.le_trans (List.length_filter_le _ _) (by simp)
section
variable {W : Wb} (ok : W.Ok) {C : Int → Bool} {K : Int} {X : Int → Int} (h : IsEver W C K X)
include ok h
theorem dn_round (hK : 0 ≤ K) {l : List Int} (sub : ∀ v, v ∈ l → 1 ≤ X v) : IsRound W C K (dn1 X fun w => l.contains w) (fun _ => K) (rnd W C K (dn1 X fun w => l.contains w)) := by
  obtain ⟨Y, hY⟩ := ex_round ok (C := C) (X := dn1 X fun w => l.contains w) (top := fun _ => K) hK (fun v h0 h1 => by
    unfold dn1
    split
    · rename_i z
      have := sub v (List.contains_iff_mem.mp z)
      omega
    · exact (h.rng v h0 h1).1) fun _ _ _ => hK
  exact hY.congr ok (fun _ _ _ => rfl) (rnd_eq hY).symm
theorem dn_le {l : List Int} {Y : Int → Int} (g : IsRound W C K (dn1 X fun w => l.contains w) (fun _ => K) Y) : Le W Y X := fun v h0 h1 =>
  h.fix.most Y (g.post.mono ok (fun v _ _ => by unfold dn1; split <;> omega) fun _ _ _ => Int.le_refl _) v h0 h1
theorem someC (hK : 0 ≤ K) : ∀ i, lft (lvC W C K X) (l0C W X) i ≠ [] → ∃ v ∈ lft (lvC W C K X) (l0C W X) i, lvC W C K X (lft (lvC W C K X) (l0C W X) i) v = true := by
  intro i hne
  have sub : ∀ v, v ∈ lft (lvC W C K X) (l0C W X) i → 0 ≤ v ∧ v < W.n ∧ W.mov v = true ∧ 1 ≤ X v := fun v hv => mem_l0C.mp (lft_anti (Nat.zero_le i) hv)
  generalize lft (lvC W C K X) (l0C W X) i = l at hne sub
  apply Classical.byContradiction
  intro no
  have g := dn_round ok h hK fun v hv => (sub v hv).2.2.2
  have hno : ∀ v ∈ l, rnd W C K (dn1 X fun w => l.contains w) v < X v := fun v hv => Int.not_le.mp fun z => no ⟨v, hv, decide_eq_true z⟩
  have le := dn_le ok h g
  have key := h.least (dn1 X fun w => l.contains w) (fun v h0 h1 => by
    unfold dn1
    show 0 ≤ _
    split
    · rename_i z
      have := sub v (List.contains_iff_mem.mp z)
      omega
    · exact (h.rng v h0 h1).1) fun Y hY v h0 h1 => by
      have h2 := g.most Y hY v h0 h1
      unfold dn1
      split
      · rename_i z
        have := hno v (List.contains_iff_mem.mp z)
        omega
      · exact Int.le_trans h2 (le v h0 h1)
  cases e : l with
  | nil => exact hne e
  | cons a t =>
    have ha : a ∈ l := by rw [e]; exact List.mem_cons_self
    have hs := sub a ha
    have := key a hs.1 hs.2.1
    have e2 : dn1 X (fun w => l.contains w) a = X a - 1 := by unfold dn1; rw [if_pos (List.contains_iff_mem.mpr ha)]
    omega
end
/-- what counts are -/
structure Lower (W : Wb) (C : Int → Bool) (K : Int) (X ct : Int → Int) : Prop where
  nn : ∀ v : Int, 0 ≤ v → v < W.n → 0 ≤ ct v
  pos : ∀ v : Int, 0 ≤ v → v < W.n → 1 ≤ ct v → W.mov v = true ∧ X v ≤ price W (dn1 X fun w => decide (ct v + (if C v = true then 0 else 1) ≤ ct w)) v
  zero : ∀ v : Int, 0 ≤ v → v < W.n → ct v = 0 → W.mov v = true → X v ≤ 0
theorem lower_of {W : Wb} (ok : W.Ok) {C : Int → Bool} {K : Int} {X : Int → Int} (hev : IsEver W C K X) (hK : 0 ≤ K) {T : Nat} (h : lft (lvC W C K X) (l0C W X) T = []) : Lower W C K X (rnk (lvC W C K X) (l0C W X) T) where
  nn := fun v _ _ => rnk_nn v T
  pos := fun v h0 h1 h2 => by
    rcases rnk_spec (lv := lvC W C K X) (l0 := l0C W X) v T with ⟨_, z⟩ | ⟨_, z⟩ | ⟨j, hj, e1, e2, e3⟩
    · omega
    · omega
    · have hs := mem_l0C.mp (lft_anti (Nat.zero_le j) e2)
      refine ⟨hs.2.2.1, ?_⟩
      have e4 := of_decide_eq_true e3
      have g := dn_round ok hev hK (l := lft (lvC W C K X) (l0C W X) j) fun v hv => (mem_l0C.mp (lft_anti (Nat.zero_le j) hv)).2.2.2
      have le := dn_le ok hev g
      rw [e1]
      by_cases hc : C v = true
      · rw [if_pos hc]
        have := g.calls v h0 h1 hs.2.2.1 hc
        rw [this] at e4
        refine Int.le_trans e4 (price_mono ok h0 h1 hs.2.2.1 fun w a b => ?_)
        unfold dn1
        have hw := rnk_in h (v := w) (i := j)
        by_cases c : (j : Int) < rnk (lvC W C K X) (l0C W X) T w
        · rw [if_pos (List.contains_iff_mem.mpr (hw.mpr c))]
          split <;> omega
        · rw [if_neg fun z => c (hw.mp (List.contains_iff_mem.mp z))]
          split
          · rename_i z
            have := of_decide_eq_true z
            exfalso
            omega
          · omega
      · rw [if_neg hc]
        have e5 := ((g.post v h0 h1).2.2 hs.2.2.1 (by simpa using hc)).2
        refine Int.le_trans e4 (Int.le_trans e5 (price_mono ok h0 h1 hs.2.2.1 fun w a b => ?_))
        have hl := le w a b
        have hlt : (j : Int) + 1 < rnk (lvC W C K X) (l0C W X) T w → rnd W C K (dn1 X fun w => (lft (lvC W C K X) (l0C W X) j).contains w) w < X w := fun z => by
          have hw := (rnk_in h (v := w) (i := j + 1)).mpr (by omega)
          exact Int.not_le.mp (of_decide_eq_false (lft_sub hw).2)
        generalize rnd W C K (dn1 X fun w => (lft (lvC W C K X) (l0C W X) j).contains w) w = y at hl hlt
        unfold dn1
        split
        · rename_i z
          have z2 := of_decide_eq_true z
          have := hlt (by omega)
          omega
        · exact hl
  zero := fun v h0 h1 h2 hm => Int.not_lt.mp fun z => by
    have := (rnk_in h (v := v) (i := 0)).mp (mem_l0C.mpr ⟨h0, h1, hm, by omega⟩)
    omega
end Pw
end

section
/-! Both plans: what they say, what they keep. -/
namespace Pw
/-- the row for ever, by name; its ranks and counts -/
noncomputable def eX (W : Wb) (C : Int → Bool) (k : Int) : Int → Int := Classical.epsilon fun X => IsEver W C (k + 1) X
theorem ever_eq {W : Wb} {C : Int → Bool} {k : Int} {X : Int → Int} (h : IsEver W C (k + 1) X) : Eq' W (eX W C k) X := IsEver.uniq (Classical.epsilon_spec (p := fun X => IsEver W C (k + 1) X) ⟨X, h⟩) h
noncomputable def eR (W : Wb) (C : Int → Bool) (k : Int) : Int → Int := rnk (lvR W (eX W C k)) (l0R W C (k + 1) (eX W C k)) W.n
noncomputable def eC (W : Wb) (C : Int → Bool) (k : Int) : Int → Int := rnk (lvC W C (k + 1) (eX W C k)) (l0C W (eX W C k)) W.n
theorem eR_upper {W : Wb} (ok : W.Ok) {C : Int → Bool} {k : Int} (h : IsEver W C (k + 1) (eX W C k)) : Upper W C (k + 1) (eX W C k) (eR W C k) := upper_of ok (lft_end (someR ok h) (l0R_len W C (k + 1) _))
theorem eC_lower {W : Wb} (ok : W.Ok) {C : Int → Bool} {k : Int} (hk : 0 ≤ k) (h : IsEver W C (k + 1) (eX W C k)) : Lower W C (k + 1) (eX W C k) (eC W C k) := lower_of ok h (by omega) (lft_end (someC ok h (by omega)) (l0C_len W _))
theorem rnk_le {lv : List Int → Int → Bool} {l0 : List Int} (v : Int) (i : Nat) : rnk lv l0 i v ≤ i := by
  rcases rnk_spec (lv := lv) (l0 := l0) v i with ⟨_, h2⟩ | ⟨_, h2⟩ | ⟨j, hj, h1, _, _⟩ <;> omega
theorem eR_rng (W : Wb) (C : Int → Bool) (k v : Int) : 0 ≤ eR W C k v ∧ eR W C k v ≤ W.n := ⟨rnk_nn v _, rnk_le v _⟩
theorem eC_rng (W : Wb) (C : Int → Bool) (k v : Int) : 0 ≤ eC W C k v ∧ eC W C k v ≤ W.n := ⟨rnk_nn v _, rnk_le v _⟩
def rFst (X : Int → Int) (rk : Int → Int) (v : Int) : Int → Int := up1 X fun w => decide (rk v ≤ rk w)
def rSnd (C : Int → Bool) (X : Int → Int) (ct : Int → Int) (v : Int) : Int → Int := dn1 X fun w => decide (ct v + (if C v = true then 0 else 1) ≤ ct w)
def fIdle (C : Int → Bool) (X rk : Int → Int) (v a : Int) : Prop := a - X v < 0 ∨ (rk v = 0 ∧ C v = false)
instance {C : Int → Bool} {X rk : Int → Int} {v a : Int} : Decidable (fIdle C X rk v a) := by unfold fIdle; infer_instance
def lowest (W : Wb) (X : Int → Int) (v : Int) : List Int := (W.F v).filter fun w => decide (X w = lo W X v)
def below (W : Wb) (X rk : Int → Int) (v : Int) : List Int := (lowest W X v).filter fun w => decide (rk w < rk v)
def fBid (W : Wb) (C : Int → Bool) (X rk : Int → Int) (v a : Int) : Int :=
  if fIdle C X rk v a then 0 else if C v = true then min (toldB1 W (fun w => X w + (a - X v)) v a) a else min (toldB1 W (fun w => rFst X rk v w + (a - X v)) v a) a
def fStep (W : Wb) (C : Int → Bool) (X rk : Int → Int) (v a : Int) : Int :=
  if fIdle C X rk v a then minOf (W.F v) else if C v = true then toldS1 W (fun w => X w + (a - X v)) v else if below W X rk v = [] then minOf (lowest W X v) else minOf (below W X rk v)
def sIdle (X ct : Int → Int) (v a : Int) : Prop := X v - 1 - a < 0 ∨ ct v = 0
instance {X ct : Int → Int} {v a : Int} : Decidable (sIdle X ct v a) := by unfold sIdle; infer_instance
def sBid (W : Wb) (C : Int → Bool) (k : Int) (X ct : Int → Int) (v a : Int) : Int :=
  if sIdle X ct v a then 0 else min (toldB2 W (fun w => rSnd C X ct v w - (X v - 1 - a)) v a) (k - a)
def sStep (W : Wb) (C : Int → Bool) (X ct : Int → Int) (v a : Int) : Int :=
  if sIdle X ct v a then minOf (W.S v) else toldS2 W (fun w => rSnd C X ct v w - (X v - 1 - a)) v
/-- who moves, and how -/
def movS (W : Wb) (v p q s t : Int) : Int := if q < p ∨ (p = q ∧ W.mark v = 1) then s else t
def movA (W : Wb) (v a p q : Int) : Int := if q < p ∨ (p = q ∧ W.mark v = 1) then a - p else a + q

theorem pick_mem {l : List Int} {p : Int → Bool} (h : ∃ x ∈ l, p x = true) : pick l p ∈ l ∧ p (pick l p) = true := by
  have : pick l p ∈ l.filter p := minOf_mem (by
    intro z
    obtain ⟨x, hx, hp⟩ := h
    have := List.mem_filter.mpr ⟨hx, hp⟩
    rw [z] at this
    cases this)
  exact List.mem_filter.mp this
section
variable {W : Wb} (ok : W.Ok) {C : Int → Bool} {k : Int} {X rk ct : Int → Int}
theorem toldS1_spec {h : Int → Int} {v : Int} (hm : W.mov v = true) (ok : W.Ok) : toldS1 W h v ∈ W.F v ∧ h (toldS1 W h v) = lo W h v := by
  obtain ⟨w, hw, e⟩ := lo_mem ok hm h
  have := pick_mem (l := W.F v) (p := fun w => decide (h w = lo W h v)) ⟨w, hw, decide_eq_true e⟩
  exact ⟨this.1, of_decide_eq_true this.2⟩
theorem toldS2_spec {h : Int → Int} {v : Int} (h0 : 0 ≤ v) (h1 : v < W.n) (hm : W.mov v = true) (ok : W.Ok) : toldS2 W h v ∈ W.S v ∧ h (toldS2 W h v) = hi W h v := by
  obtain ⟨w, hw, e⟩ := hi_mem ok h0 h1 hm h
  have := pick_mem (l := W.S v) (p := fun w => decide (h w = hi W h v)) ⟨w, hw, decide_eq_true e⟩
  exact ⟨this.1, of_decide_eq_true this.2⟩
theorem lowest_ne {v : Int} (hm : W.mov v = true) (ok : W.Ok) : lowest W X v ≠ [] := fun z => by
  obtain ⟨w, hw, e⟩ := lo_mem ok hm X
  have : w ∈ lowest W X v := List.mem_filter.mpr ⟨hw, decide_eq_true e⟩
  rw [z] at this
  cases this
include ok
theorem fStep_in {v a : Int} (hm : W.mov v = true) : fStep W C X rk v a ∈ W.F v := by
  unfold fStep
  split
  · exact minOf_mem (mov_ne hm)
  · split
    · exact (toldS1_spec hm ok).1
    · split
      · exact (List.mem_filter.mp (minOf_mem (lowest_ne hm ok))).1
      · rename_i hb
        exact (List.mem_filter.mp (List.mem_filter.mp (minOf_mem hb)).1).1
theorem sStep_in {v a : Int} (h0 : 0 ≤ v) (h1 : v < W.n) (hm : W.mov v = true) : sStep W C X ct v a ∈ W.S v := by
  unfold sStep
  split
  · exact minOf_mem (ne_S ok h0 h1 hm)
  · exact (toldS2_spec h0 h1 hm ok).1
theorem fBid_rng {v a : Int} (ha : 0 ≤ a) : 0 ≤ fBid W C X rk v a ∧ fBid W C X rk v a ≤ a := by
  unfold fBid toldB1
  split
  · omega
  · split <;> omega
theorem sBid_rng {v a : Int} (ha : a ≤ k) : 0 ≤ sBid W C k X ct v a ∧ sBid W C k X ct v a ≤ k - a := by
  unfold sBid toldB2
  split <;> omega
omit ok in
/-- the arithmetic of a told bid of the first -/
theorem told1 {m l h a p q : Int} (hm : m = 1 ∨ m = 2) (hh : half m l h ≤ a) (hl : 0 ≤ l) (ha : 0 ≤ a) (hq : 0 ≤ q) (e : p = min (max 0 (h - a - (if m = 1 then 1 else 0))) a) :
    ((q < p ∨ (p = q ∧ m = 1)) → l ≤ a - p) ∧ (¬(q < p ∨ (p = q ∧ m = 1)) → h ≤ a + q) := by
  unfold half at hh
  rcases hm with rfl | rfl
  · rw [if_pos rfl] at hh e
    constructor
    · intro z; omega
    · intro z; omega
  · rw [if_neg (by decide)] at hh e
    constructor
    · intro z; omega
    · intro z; omega
omit ok in
theorem told2 {m l h a p q k : Int} (hm : m = 1 ∨ m = 2) (hh : a + 1 ≤ half m l h) (hk : h ≤ k + 1) (ha : 0 ≤ a) (hp : 0 ≤ p) (hak : a ≤ k) (e : q = min (max 0 (a - l + (if m = 1 then 1 else 0))) (k - a)) :
    ((q < p ∨ (p = q ∧ m = 1)) → a - p ≤ l - 1) ∧ (¬(q < p ∨ (p = q ∧ m = 1)) → a + q ≤ h - 1) := by
  unfold half at hh
  rcases hm with rfl | rfl
  · rw [if_pos rfl] at hh e
    constructor
    · intro z; omega
    · intro z; omega
  · rw [if_neg (by decide)] at hh e
    constructor
    · intro z; omega
    · intro z; omega
/-- FIRST keeps: the spare does not fall; where the stand is no call and it stays, the rank falls -/
theorem first_keep (ev : IsEver W C (k + 1) X) (up : Upper W C (k + 1) X rk) {v a q t : Int} (h0 : 0 ≤ v) (h1 : v < W.n) (hm : W.mov v = true) (ha : 0 ≤ a) (hak : a ≤ k) (hX : X v ≤ a) (hq : 0 ≤ q) (hqk : q ≤ k - a) (ht : t ∈ W.S v) :
    let s := movS W v (fBid W C X rk v a) q (fStep W C X rk v a) t
    let b := movA W v a (fBid W C X rk v a) q
    0 ≤ s ∧ s < W.n ∧ 0 ≤ b ∧ b ≤ k ∧ a - X v ≤ b - X s ∧ (C v = false → b - X s = a - X v → rk s < rk v) := by
  intro s b
  have hs : 0 ≤ s ∧ s < W.n := by
    show 0 ≤ movS W v _ q _ t ∧ movS W v _ q _ t < W.n
    unfold movS
    split
    · exact ok.fr v _ h0 h1 (fStep_in ok hm)
    · exact ok.sr v t h0 h1 ht
  have hb : 0 ≤ b ∧ b ≤ k := by
    have := fBid_rng ok (C := C) (X := X) (rk := rk) (v := v) ha
    show 0 ≤ movA W v a _ q ∧ movA W v a _ q ≤ k
    unfold movA
    split <;> omega
  have hni : ¬ fIdle C X rk v a := by
    rintro (z | ⟨z1, z2⟩)
    · omega
    · have := up.zero v h0 h1 z1 hm z2
      omega
  have mk := ok.mks v h0 h1
  have ht2 := ok.sr v t h0 h1 ht
  refine ⟨hs.1, hs.2, hb.1, hb.2, ?_⟩
  by_cases hc : C v = true
  · have hp : fBid W C X rk v a = min (toldB1 W (fun w => X w + (a - X v)) v a) a := by unfold fBid; rw [if_neg hni, if_pos hc]
    have hst : fStep W C X rk v a = toldS1 W (fun w => X w + (a - X v)) v := by unfold fStep; rw [if_neg hni, if_pos hc]
    have hpr : price W (fun w => X w + (a - X v)) v = a := by
      rw [price_add ok h0 h1 hm, ← ev.fix.calls v h0 h1 hm hc]
      omega
    have hl0 : 0 ≤ lo W (fun w => X w + (a - X v)) v := by
      obtain ⟨w, hw, e⟩ := lo_mem ok hm fun w => X w + (a - X v)
      have r := ok.fr v w h0 h1 hw
      have := (ev.rng w r.1 r.2).1
      try simp only at e
      omega
    have key := told1 (p := fBid W C X rk v a) (q := q) mk (Int.le_of_eq hpr) hl0 ha hq (by rw [hp]; rfl)
    refine ⟨?_, fun z => (by rw [hc] at z; cases z)⟩
    show a - X v ≤ movA W v a _ q - X (movS W v _ q _ t)
    unfold movA movS
    split
    · rename_i z
      have h3 := key.1 z
      have h4 := (toldS1_spec hm ok (h := fun w => X w + (a - X v))).2
      rw [← hst] at h4
      try simp only at h4
      omega
    · rename_i z
      have h3 := key.2 z
      have h4 := le_hi (fun w => X w + (a - X v)) ht
      try simp only at h4
      omega
  · have hc' : C v = false := by simpa using hc
    have hr : 1 ≤ rk v := by
      have := up.nn v h0 h1
      by_cases z : rk v = 0
      · exact absurd (.inr ⟨z, hc'⟩) hni
      · omega
    have hp : fBid W C X rk v a = min (toldB1 W (fun w => rFst X rk v w + (a - X v)) v a) a := by unfold fBid; rw [if_neg hni, if_neg hc]
    have hst : fStep W C X rk v a = if below W X rk v = [] then minOf (lowest W X v) else minOf (below W X rk v) := by unfold fStep; rw [if_neg hni, if_neg hc]
    have hpr : price W (fun w => rFst X rk v w + (a - X v)) v ≤ a := by
      rw [price_add ok h0 h1 hm]
      have : price W (rFst X rk v) v ≤ X v := (up.pos v h0 h1 hr).2.2
      omega
    have hrl : ∀ w, X w ≤ rFst X rk v w ∧ rFst X rk v w ≤ X w + 1 ∧ (rk v ≤ rk w → rFst X rk v w = X w + 1) ∧ (rk w < rk v → rFst X rk v w = X w) := fun w => by
      unfold rFst up1
      by_cases z : rk v ≤ rk w
      · rw [if_pos (decide_eq_true z)]
        exact ⟨by omega, by omega, fun _ => rfl, fun _ => by omega⟩
      · rw [if_neg (by simpa using z)]
        exact ⟨by omega, by omega, fun _ => by omega, fun _ => rfl⟩
    have hl0 : 0 ≤ lo W (fun w => rFst X rk v w + (a - X v)) v := by
      obtain ⟨w, hw, e⟩ := lo_mem ok hm fun w => rFst X rk v w + (a - X v)
      have r := ok.fr v w h0 h1 hw
      have := (ev.rng w r.1 r.2).1
      have := (hrl w).1
      try simp only at e
      omega
    have key := told1 (p := fBid W C X rk v a) (q := q) mk hpr hl0 ha hq (by rw [hp]; rfl)
    have hlow : rFst X rk v (fStep W C X rk v a) + (a - X v) ≤ lo W (fun w => rFst X rk v w + (a - X v)) v := by
      obtain ⟨w, hw, e⟩ := lo_mem ok hm fun w => rFst X rk v w + (a - X v)
      try simp only at e
      have hlw := lo_le X hw
      rw [hst]
      split
      · rename_i z
        have hmem := minOf_mem (lowest_ne (X := X) hm ok)
        have h5 := of_decide_eq_true (List.mem_filter.mp hmem).2
        have h6 := (hrl (minOf (lowest W X v))).2.1
        by_cases hx : X w = lo W X v
        · have h7 : ¬ rk w < rk v := fun y => by
            have : w ∈ below W X rk v := List.mem_filter.mpr ⟨List.mem_filter.mpr ⟨hw, decide_eq_true hx⟩, decide_eq_true y⟩
            rw [z] at this
            cases this
          have h8 := (hrl w).2.2.1 (by omega)
          omega
        · have h8 := (hrl w).1
          omega
      · rename_i z
        have hmem : minOf (below W X rk v) ∈ lowest W X v ∧ decide (rk (minOf (below W X rk v)) < rk v) = true := List.mem_filter.mp (minOf_mem z)
        have h5 := of_decide_eq_true (List.mem_filter.mp hmem.1).2
        have h6 := (hrl (minOf (below W X rk v))).2.2.2 (of_decide_eq_true hmem.2)
        have h8 := (hrl w).1
        omega
    have fin : rFst X rk v s + (a - X v) ≤ b := by
      show rFst X rk v (movS W v _ q _ t) + (a - X v) ≤ movA W v a _ q
      unfold movA movS
      split
      · rename_i z
        have := key.1 z
        omega
      · rename_i z
        have h3 := key.2 z
        have h4 := le_hi (fun w => rFst X rk v w + (a - X v)) ht
        try simp only at h4
        omega
    have h9 := hrl s
    refine ⟨by omega, fun _ e => ?_⟩
    refine Int.not_le.mp fun z => ?_
    have := h9.2.2.1 z
    omega
/-- SECOND keeps -/
theorem second_keep (ev : IsEver W C (k + 1) X) (dn : Lower W C (k + 1) X ct) {v a p t : Int} (h0 : 0 ≤ v) (h1 : v < W.n) (hm : W.mov v = true) (ha : 0 ≤ a) (hak : a ≤ k) (hX : a < X v) (hp : 0 ≤ p) (hpa : p ≤ a) (ht : t ∈ W.F v) :
    let s := movS W v p (sBid W C k X ct v a) t (sStep W C X ct v a)
    let b := movA W v a p (sBid W C k X ct v a)
    0 ≤ s ∧ s < W.n ∧ 0 ≤ b ∧ b ≤ k ∧ X v - 1 - a ≤ X s - 1 - b ∧ 1 ≤ ct v ∧ (X s - 1 - b = X v - 1 - a → ct s ≤ ct v ∧ (C v = true → ct s < ct v)) := by
  intro s b
  have hs : 0 ≤ s ∧ s < W.n := by
    show 0 ≤ movS W v p _ t _ ∧ movS W v p _ t _ < W.n
    unfold movS
    split
    · exact ok.fr v t h0 h1 ht
    · exact ok.sr v _ h0 h1 (sStep_in ok h0 h1 hm)
  have hb : 0 ≤ b ∧ b ≤ k := by
    have := sBid_rng ok (C := C) (X := X) (ct := ct) (v := v) hak
    show 0 ≤ movA W v a p _ ∧ movA W v a p _ ≤ k
    unfold movA
    split <;> omega
  have hc1 : 1 ≤ ct v := by
    have := dn.nn v h0 h1
    by_cases z : ct v = 0
    · have := dn.zero v h0 h1 z hm
      omega
    · omega
  have hni : ¬ sIdle X ct v a := by
    rintro (z | z) <;> omega
  have mk := ok.mks v h0 h1
  have hq : sBid W C k X ct v a = min (toldB2 W (fun w => rSnd C X ct v w - (X v - 1 - a)) v a) (k - a) := by unfold sBid; rw [if_neg hni]
  have hst : sStep W C X ct v a = toldS2 W (fun w => rSnd C X ct v w - (X v - 1 - a)) v := by unfold sStep; rw [if_neg hni]
  have hpr : a + 1 ≤ price W (fun w => rSnd C X ct v w - (X v - 1 - a)) v := by
    have h3 := price_add ok h0 h1 hm (rSnd C X ct v) (-(X v - 1 - a))
    have e : (fun w => rSnd C X ct v w + -(X v - 1 - a)) = fun w => rSnd C X ct v w - (X v - 1 - a) := by funext w; omega
    rw [e] at h3
    have : X v ≤ price W (rSnd C X ct v) v := (dn.pos v h0 h1 hc1).2
    omega
  have hrl : ∀ w, rSnd C X ct v w ≤ X w ∧ (ct v + (if C v = true then 0 else 1) ≤ ct w → rSnd C X ct v w = X w - 1) := fun w => by
    unfold rSnd dn1
    by_cases z : ct v + (if C v = true then 0 else 1) ≤ ct w
    · rw [if_pos (decide_eq_true z)]
      exact ⟨by omega, fun _ => rfl⟩
    · rw [if_neg (by simpa using z)]
      exact ⟨by omega, fun y => absurd y z⟩
  have hh : hi W (fun w => rSnd C X ct v w - (X v - 1 - a)) v ≤ k + 1 := by
    obtain ⟨w, hw, e⟩ := hi_mem ok h0 h1 hm fun w => rSnd C X ct v w - (X v - 1 - a)
    have r := ok.sr v w h0 h1 hw
    have := (ev.rng w r.1 r.2).2
    have := (hrl w).1
    try simp only at e
    omega
  have key := told2 (p := p) (q := sBid W C k X ct v a) mk hpr hh ha hp hak (by rw [hq]; rfl)
  have fin : b ≤ rSnd C X ct v s - (X v - 1 - a) - 1 := by
    show movA W v a p _ ≤ rSnd C X ct v (movS W v p _ t _) - (X v - 1 - a) - 1
    unfold movA movS
    split
    · rename_i z
      have h3 := key.1 z
      have h4 := lo_le (fun w => rSnd C X ct v w - (X v - 1 - a)) ht
      try simp only at h4
      omega
    · rename_i z
      have h3 := key.2 z
      have h4 := (toldS2_spec h0 h1 hm ok (h := fun w => rSnd C X ct v w - (X v - 1 - a))).2
      rw [← hst] at h4
      try simp only at h4
      omega
  have h9 := hrl s
  refine ⟨hs.1, hs.2, hb.1, hb.2, by omega, hc1, fun e => ?_⟩
  have h10 : ct s < ct v + (if C v = true then 0 else 1) := Int.not_le.mp fun z => by
    have := h9.2 z
    omega
  constructor
  · split at h10 <;> omega
  · intro hc
    rw [if_pos hc] at h10
    omega
end
/-! ### the duel -/
structure DS where
  v : Int
  a : Int
  vis : Int
  mov : Int
def cb (C : Int → Bool) (v : Int) : Int := if C v = true then 1 else 0
def dNext (W : Wb) (C : Int → Bool) (k : Int) (X rk ct : Int → Int) (s : DS) : DS :=
  let p := fBid W C X rk s.v s.a
  let q := sBid W C k X ct s.v s.a
  let w := movS W s.v p q (fStep W C X rk s.v s.a) (sStep W C X ct s.v s.a)
  ⟨w, movA W s.v s.a p q, s.vis + cb C w, s.mov + 1⟩
def dRun (W : Wb) (C : Int → Bool) (k : Int) (X rk ct : Int → Int) (v a : Int) : Nat → DS
  | 0 => ⟨v, a, cb C v, 0⟩
  | i + 1 => let s := dRun W C k X rk ct v a i; if W.mov s.v = true then dNext W C k X rk ct s else s
def dIn (W : Wb) (k : Int) (s : DS) : Prop := 0 ≤ s.v ∧ s.v < W.n ∧ 0 ≤ s.a ∧ s.a ≤ k
section
variable {W : Wb} (ok : W.Ok) {C : Int → Bool} {k : Int} {X rk ct : Int → Int} {v a : Int}
include ok
theorem dNext_in {s : DS} (h : dIn W k s) (hm : W.mov s.v = true) : dIn W k (dNext W C k X rk ct s) := by
  obtain ⟨h0, h1, h2, h3⟩ := h
  have f := fBid_rng ok (C := C) (X := X) (rk := rk) (v := s.v) h2
  have g := sBid_rng ok (C := C) (X := X) (ct := ct) (v := s.v) h3
  have hs : 0 ≤ (dNext W C k X rk ct s).v ∧ (dNext W C k X rk ct s).v < W.n := by
    show 0 ≤ movS W _ _ _ _ _ ∧ movS W _ _ _ _ _ < W.n
    unfold movS
    split
    · exact ok.fr _ _ h0 h1 (fStep_in ok hm)
    · exact ok.sr _ _ h0 h1 (sStep_in ok h0 h1 hm)
  refine ⟨hs.1, hs.2, ?_, ?_⟩
  · show 0 ≤ movA W _ _ _ _
    unfold movA
    split <;> omega
  · show movA W _ _ _ _ ≤ k
    unfold movA
    split <;> omega
theorem dRun_in (h : 0 ≤ v ∧ v < W.n ∧ 0 ≤ a ∧ a ≤ k) : ∀ i, dIn W k (dRun W C k X rk ct v a i)
  | 0 => h
  | i + 1 => by
    show dIn W k (if W.mov (dRun W C k X rk ct v a i).v = true then _ else _)
    split
    · rename_i hm
      exact dNext_in ok (dRun_in h i) hm
    · exact dRun_in h i
omit ok in
theorem dRun_stay {i : Nat} (h : W.mov (dRun W C k X rk ct v a i).v = false) : ∀ j, i ≤ j → dRun W C k X rk ct v a j = dRun W C k X rk ct v a i
  | 0, hj => by
    have : i = 0 := by omega
    subst this
    rfl
  | j + 1, hj => by
    by_cases e : i = j + 1
    · subst e; rfl
    · have ih := dRun_stay h j (by omega)
      show (if W.mov (dRun W C k X rk ct v a j).v = true then _ else _) = _
      rw [ih, if_neg (by rw [h]; exact Bool.false_ne_true)]
end
end Pw
end

section
set_option maxRecDepth 100000
set_option maxHeartbeats 2000000
/-! The kit of this proof: sequences, loops over them, calls by name, readings that evaluate. -/
namespace Pw
open PySem PySem.Spec PyProof.Rows L2 Evl

/-! ### sequences: a list or a tuple that is read -/
def SqA (K : Frag) (H : Hp) (a : Addr) (xs : List V) : Prop := SqL K H a xs ∨ SqT K H a xs
section
variable {K : Frag} {H H' : Hp} {a : Addr} {xs : List V}
theorem SqA.mono (e : Ex H H') (h : SqA K H a xs) : SqA K H' a xs := h.elim (fun z => .inl (ex_l e z)) fun z => .inr (ex_t e z)
theorem SqA.l (h : SqL K H a xs) : SqA K H a xs := .inl h
theorem SqA.t (h : SqT K H a xs) : SqA K H a xs := .inr h
theorem SqA.lst (h : H a = some (.lst xs)) : SqA K H a xs := .inl (sq_of h)
theorem SqA.tup (h : H a = some (.tup xs)) : SqA K H a xs := .inr (st_of h)
end

/-! ### rows -/
def rowV (n : Nat) (f : Int → Int) : List V := (List.range n).map fun (i : Nat) => V.int (f (i : Int))
def intV (l : List Int) : List V := l.map V.int
theorem rowV_len (n : Nat) (f : Int → Int) : (rowV n f).length = n := by unfold rowV; rw [List.length_map, List.length_range]
theorem intV_len (l : List Int) : (intV l).length = l.length := List.length_map ..
theorem rowV_get {n : Nat} {f : Int → Int} {i : Nat} (h : i < n) : (rowV n f)[i]? = some (.int (f (i : Int))) := by
  unfold rowV
  rw [List.getElem?_map, List.getElem?_range h] <;> rfl
theorem atI_of {xs : List V} {v : Int} {x : V} (h0 : 0 ≤ v) (h : xs[v.toNat]? = some x) : atI xs v = some x := by
  unfold atI ixN
  have hl : v.toNat < xs.length := (List.getElem?_eq_some_iff.mp h).1
  rw [if_pos h0, if_pos (by omega)]
  exact h
theorem atI_row {n : Nat} {f : Int → Int} {v : Int} (h0 : 0 ≤ v) (h1 : v < n) : atI (rowV n f) v = some (.int (f v)) := by
  have h2 : v.toNat < n := by omega
  have e : ((v.toNat : Nat) : Int) = v := Int.toNat_of_nonneg h0
  refine atI_of h0 ?_
  rw [rowV_get h2, e]
theorem rowV_map (n : Nat) (f : Int → Int) : rowV n f = ((List.range n).map fun (i : Nat) => f (i : Int)).map V.int := by
  unfold rowV
  rw [List.map_map] <;> rfl
theorem rowV_congr {n : Nat} {f g : Int → Int} (h : ∀ v : Int, 0 ≤ v → v < n → f v = g v) : rowV n f = rowV n g := by
  unfold rowV
  refine List.map_congr_left fun i hi => ?_
  rw [h i (by omega) (by have := List.mem_range.mp hi; omega)]
def setF (f : Int → Int) (j : Int) (x : Int) : Int → Int := fun v => if v = j then x else f v
theorem rowV_set {n : Nat} {f : Int → Int} {j : Int} {x : Int} (h0 : 0 ≤ j) (h1 : j < n) : (rowV n f).set j.toNat (.int x) = rowV n (setF f j x) := by
  refine List.ext_getElem? fun i => ?_
  by_cases hi : i < n
  · rw [rowV_get hi, List.getElem?_set]
    by_cases e : j.toNat = i
    · subst e
      rw [if_pos rfl, if_pos (by rw [rowV_len]; omega)]
      unfold setF
      rw [if_pos (Int.toNat_of_nonneg h0)]
    · rw [if_neg e, rowV_get hi]
      unfold setF
      rw [if_neg (by omega)]
  · rw [List.getElem?_eq_none (by rw [List.length_set, rowV_len]; omega), List.getElem?_eq_none (by rw [rowV_len]; omega)]
/-- a list of ints told by membership in it: x in xs -/
theorem inV_int {l : List Int} {v : Int} : inV (.int v) (intV l) = l.contains v := by
  unfold inV intV
  induction l with
  | nil => rfl
  | cons a l ih =>
    rw [List.map_cons, List.any_cons, ih, List.contains_cons]
    have e : eqV (.int a) (.int v) = (v == a) := by
      show (a == v) = (v == a)
      rw [Bool.eq_iff_iff]
      simp only [beq_iff_eq]
      exact ⟨fun h => h.symm, fun h => h.symm⟩
    rw [e]
theorem flat_int (l : List Int) : (intV l).all flatV = true := by
  unfold intV
  rw [List.all_eq_true]
  intro x hx
  obtain ⟨i, _, rfl⟩ := List.mem_map.mp hx
  rfl

/-! ### walks of a list or a tuple -/
def iSeq (K : Frag) (tl : TE) : TI := fun σ H R => tl σ H fun x H1 => ∃ a, x = .ref a ∧ (((∃ xs, SqL K H1 a xs) ∧ R (Itl K a) H1) ∨ ((∃ xs, SqT K H1 a xs) ∧ R (Itt K a) H1))
theorem pi_seq {X : Cx} {tg l : Expr} {tl : TE} (hl : PE X l tl) : PI X tg l (iSeq X.K tl) := by
  refine ⟨fun pins s σ H R I h => ?_⟩
  refine thn (hl.run pins s σ H _ I h) fun v s1 ⟨x, H1, I1, r1, q1⟩ => ?_
  obtain ⟨a, e, q⟩ := q1
  subst e
  cases r1
  rcases q with ⟨⟨xs, hq⟩, q⟩ | ⟨⟨xs, hq⟩, q⟩
  · obtain ⟨its, rv, p, hz⟩ := I1.list hq
    refine wpAny_pyIter_list p.isList ?_
    refine ⟨s1.heap.objs.size, [s1.heap.objs.size], _, _, H1, rfl, I1.kept (t' := s1.toks) fun b o e => Heap.get?_push_of_some _ e, turn_list a _, ⟨_, Heap.get?_push_size _ rfl, rfl, rfl⟩, fun b hb => ?_, q⟩
    have e : b = s1.heap.objs.size := by simpa using hb
    subst e
    exact I1.fpOk (Nat.le_refl _) (I1.hok.fresh (Nat.le_refl _))
  · obtain ⟨its, rv, p, hz⟩ := I1.tuple hq
    refine wpAny_pyIter_tuple (show s1.heap.IsTuple a its.toArray from p) ?_
    refine ⟨s1.heap.objs.size, [s1.heap.objs.size], _, _, H1, rfl, I1.kept (t' := s1.toks) fun b o e => Heap.get?_push_of_some _ e, turn_tuple a _, ⟨_, Heap.get?_push_size _ rfl, rfl, rfl⟩, fun b hb => ?_, q⟩
    have e : b = s1.heap.objs.size := by simpa using hb
    subst e
    exact I1.fpOk (Nat.le_refl _) (I1.hok.fresh (Nat.le_refl _))

/-! ### defs by their names -/
/-- the def x of the top keeps the promise sp -/
structure GF (P : Program) (w : World) (K : Frag) (mg : Str → Option Value) (base : Heap) (x : Str) (k : Nat) (sp : Sp) : Prop where
  fn : FnR P w K mg base CX0 k (He.ga K x) sp
  kp : PySem.W.keepIn K (.ref (He.ga K x)) = true
  mg : mg x = some (.ref (He.ga K x))
/-- f(e, ..) -/
def tFn (sp : Sp) (t : TA) : TE := fun σ H Q => t σ H fun vs H1 => sp vs H1 Q E0
section
variable {X : Cx} {k j : Nat} {x : Str} {sp : Sp} {e : Expr} {es : List Expr} {t : TA} {p pos : Pos}
theorem pe_f (G : GF X.prog X.w X.K X.mg X.base x k sp) (hr : Room j X.A) (hj : k ≤ j) (hg : Gl X x) (ha : PA X (e :: es) t) (hd : (x == ("__debug__" : Str)) = false := by decide)
    (he : starEach (e :: es) X.env = (false, eval e X.env) :: starEach es X.env := by rfl) (hpl : (backTo pos (starEach es X.env)).any (·.1) = false := by rfl) :
    PE X (.Call (.Name x p) (e :: es) [] pos) (tFn sp t) := by
  refine ⟨fun pins s σ H Q I h => ?_⟩
  refine wpAny_Call_Name_kw (ld_glob I hg G.mg ?_ hd)
  refine PySem.W.callWith_K (h₀ := X.base) I.ok.mod.kin G.kp (thn (ha.run pos pins s σ H _ I h) fun us s1 ⟨vs, H1, I1, r, q⟩ => ⟨I1.kIn, ?_⟩) he hpl
  exact wpAny_call (run_fnR G.fn (hr.mono hj) pass0 I1 r q)
end

/-! ### what the top has written -/
structure Txt (w : World) (K : Frag) (mg : Str → Option Value) : Prop where
  says : SaysP K
  at_ : ∃ h : Heap, K.In h ∧ h.Ns mainGlobals mg
section
variable {w : World} {K : Frag} {mg : Str → Option Value} (T : Txt w K mg)
include T
theorem Txt.glo {x : Str} (h : x ∈ Pw.glo) : mg x = some (.ref (He.ga K x)) := by
  obtain ⟨hp, X, G⟩ := T.at_
  exact PySem.W.mg_of X G (He.eqO_ok (List.all_eq_true.mp (T.says.fact 0) x h))
theorem Txt.free {x : Str} (h : x ∈ Pw.free) : mg x = none := by
  obtain ⟨hp, X, G⟩ := T.at_
  exact PySem.W.mg_none_of X G (He.eqO_ok (List.all_eq_true.mp (T.says.fact 1) x h))
theorem Txt.ints {x : Str} {i : Int} (h : (x, i) ∈ Pw.intsG) : ∃ t, mg x = some (.int i t) := by
  obtain ⟨hp, X, G⟩ := T.at_
  have c2 := List.all_eq_true.mp (T.says.fact 2) (x, i) h
  exact He.int_ok X G (x := x) (i := i) c2
omit T in
theorem memOf {α : Type} {l : List α} (i : Nat) {x : α} (h : l[i]? = some x) : x ∈ l := List.mem_of_getElem? h
theorem Txt.sclW : SlX.SCls K (gW K) := by
  obtain ⟨c1, c⟩ := He.ba (T.says.fact 3)
  obtain ⟨c2, c⟩ := He.ba c
  obtain ⟨c3, c4⟩ := He.ba c
  exact ⟨c1, c2, c3, He.eqO_ok c4⟩
theorem Txt.sclP : SlX.SCls K (gP K) := by
  obtain ⟨c1, c⟩ := He.ba (T.says.fact 4)
  obtain ⟨c2, c⟩ := He.ba c
  obtain ⟨c3, c4⟩ := He.ba c
  exact ⟨c1, c2, c3, He.eqO_ok c4⟩
omit T in
theorem isi_of {C : Addr} (h : isiB K C = true) : SlX.SIsi K C ∧ PySem.W.kitOne K (.ref C) (.ref C) = some true := by
  obtain ⟨c1, c⟩ := He.ba h
  obtain ⟨c2, c⟩ := He.ba c
  obtain ⟨c3, c⟩ := He.ba c
  obtain ⟨c4, c5⟩ := He.ba c
  exact ⟨⟨He.eqO_ok c1, He.eqO_ok c2, of_decide_eq_true c3, of_decide_eq_true c4⟩, of_decide_eq_true c5⟩
theorem Txt.isiW : SlX.SIsi K (gW K) ∧ PySem.W.kitOne K (.ref (gW K)) (.ref (gW K)) = some true := isi_of (T.says.fact 5)
theorem Txt.isiP : SlX.SIsi K (gP K) ∧ PySem.W.kitOne K (.ref (gP K)) (.ref (gP K)) = some true := isi_of (T.says.fact 6)
omit T in
theorem slot1_of {C : Addr} {f : Str} (h : slot1B K C f = true) : SlX.Slot1 K C f (He.ma K C f) (sI K C f) := by
  obtain ⟨c1, c⟩ := He.ba h
  obtain ⟨c2, c⟩ := He.ba c
  obtain ⟨c3, c⟩ := He.ba c
  obtain ⟨c4, c⟩ := He.ba c
  obtain ⟨c5, c6⟩ := He.ba c
  exact ⟨He.eqO_ok c1, He.eqO_ok c2, of_decide_eq_true c3, of_decide_eq_true c4, of_decide_eq_true c5, of_decide_eq_true c6⟩
theorem Txt.sW {f : Str} (h : f ∈ slW) : SlX.Slot1 K (gW K) f (He.ma K (gW K) f) (sI K (gW K) f) := slot1_of (List.all_eq_true.mp (T.says.fact 7) f h)
theorem Txt.sP {f : Str} (h : f ∈ slP) : SlX.Slot1 K (gP K) f (He.ma K (gP K) f) (sI K (gP K) f) := slot1_of (List.all_eq_true.mp (T.says.fact 8) f h)
theorem Txt.ndW : (slW.map (sI K (gW K))).Nodup := of_decide_eq_true (T.says.fact 9)
theorem Txt.ndP : (slP.map (sI K (gP K))).Nodup := of_decide_eq_true (T.says.fact 10)
/-- a property of a class -/
structure Prp (K : Frag) (C : Addr) (f : Str) (g : Addr) : Prop where
  at_ : PySem.W.findIn K (.ref C) f = some (some (.ref (pgA K C f)))
  get : PySem.W.specialIn K (.ref (pgA K C f)) "__get__" = some (some (.builtin "property.__get__"))
  tk : PySem.W.takesIn K (.ref (pgA K C f)) = some true
  rc : ∃ rest, PySem.W.recIn K (pgA K C f) "property" = some (.ref g :: rest)
omit T in
theorem prp_of {C : Addr} {f : Str} (h : propB K C f = true) : Prp K C f (pgG K C f) := by
  obtain ⟨c1, c⟩ := He.ba h
  obtain ⟨c2, c⟩ := He.ba c
  obtain ⟨c3, c4⟩ := He.ba c
  refine ⟨He.eqO_ok c1, He.eqO_ok c2, of_decide_eq_true c3, ?_⟩
  revert c4
  cases e : PySem.W.recIn K (pgA K C f) "property" with
  | none => intro c4; cases c4
  | some l =>
    cases l with
    | nil => intro c4; cases c4
    | cons a l =>
      cases a with
      | ref g =>
        intro c4
        have e2 : g = pgG K C f := of_decide_eq_true c4
        rw [← e2]
        exact ⟨l, rfl⟩
      | _ => intro c4; cases c4
theorem Txt.pW {f : Str} (h : f ∈ (["size", "first", "second", "marks", "dues", "moving"] : List Str)) : Prp K (gW K) f (pgG K (gW K) f) := prp_of (List.all_eq_true.mp (T.says.fact 11) f h)
theorem Txt.pP {f : Str} (h : f ∈ (["web", "chips", "calls", "row", "ranks", "counts"] : List Str)) : Prp K (gP K) f (pgG K (gP K) f) := prp_of (List.all_eq_true.mp (T.says.fact 12) f h)
omit T in
theorem mk_of {C : Addr} (h : mkB K C = true) : Mk K C (He.ma K C "__init__") := by
  obtain ⟨c1, c⟩ := He.ba h
  obtain ⟨c2, c⟩ := He.ba c
  obtain ⟨c3, c4⟩ := He.ba c
  exact ⟨c1, He.eqO_ok c2, c3, c4⟩
theorem Txt.mkW : Mk K (gW K) (He.ma K (gW K) "__init__") := mk_of (T.says.fact 13)
theorem Txt.mkP : Mk K (gP K) (He.ma K (gP K) "__init__") := mk_of (T.says.fact 14)
theorem Txt.mk1 : Mk K (g1 K) (He.ma K (g1 K) "__init__") := mk_of (T.says.fact 15)
theorem Txt.mk2 : Mk K (g2 K) (He.ma K (g2 K) "__init__") := mk_of (T.says.fact 16)
omit T in
theorem cls_of {C : Addr} (h : clsB K C = true) : Cls K C := by
  obtain ⟨c1, c⟩ := He.ba h
  obtain ⟨c2, c⟩ := He.ba c
  obtain ⟨c3, c4⟩ := He.ba c
  exact ⟨c1, c2, c3, He.eqO_ok c4⟩
theorem Txt.c1 : Cls K (g1 K) := cls_of (T.says.fact 17)
theorem Txt.c2 : Cls K (g2 K) := cls_of (T.says.fact 18)
omit T in
theorem meth_of {C : Addr} {m : Str} (h : methB K C m = true) : Meth K C m (He.ma K C m) ∧ PySem.W.fnIn K (He.ma K C m) = true := by
  obtain ⟨c1, c⟩ := He.ba h
  obtain ⟨c2, c⟩ := He.ba c
  obtain ⟨c3, c4⟩ := He.ba c
  exact ⟨⟨He.eqO_ok c1, c2, c3⟩, c4⟩
theorem Txt.m1 {m : Str} (h : m ∈ (["__call__", "due_by", "falls", "look"] : List Str)) : Meth K (g1 K) m (He.ma K (g1 K) m) ∧ PySem.W.fnIn K (He.ma K (g1 K) m) = true := meth_of (List.all_eq_true.mp (T.says.fact 19) m h)
theorem Txt.m2 {m : Str} (h : m ∈ (["__call__", "visits_at_most", "falls", "look"] : List Str)) : Meth K (g2 K) m (He.ma K (g2 K) m) ∧ PySem.W.fnIn K (He.ma K (g2 K) m) = true := meth_of (List.all_eq_true.mp (T.says.fact 20) m h)
theorem Txt.n1 {f : Str} (h : f ∈ (["_web", "_chips", "_row", "_paper"] : List Str)) : NoAttr K (g1 K) f := He.eqO_ok (List.all_eq_true.mp (T.says.fact 21) f h)
theorem Txt.n2 {f : Str} (h : f ∈ (["_web", "_chips", "_row", "_paper"] : List Str)) : NoAttr K (g2 K) f := He.eqO_ok (List.all_eq_true.mp (T.says.fact 22) f h)
theorem Txt.look1 : He.ma K (g1 K) "look" = He.ma K (gN K) "look" := of_decide_eq_true (T.says.fact 23)
theorem Txt.look2 : He.ma K (g2 K) "look" = He.ma K (gN K) "look" := of_decide_eq_true (T.says.fact 24)
theorem Txt.row1 : Prp K (g1 K) "row" (pgG K (gN K) "row") := by
  have e : pgG K (g1 K) "row" = pgG K (gN K) "row" := of_decide_eq_true (T.says.fact 26)
  rw [← e]
  exact prp_of (T.says.fact 25)
theorem Txt.fact {i : Nat} {b : Bool} (h : (exB K)[i]? = some b) : b = true := T.says.fact i h
/-- a def as it stands -/
theorem Txt.def_ {d : DX} (h : d ∈ fn) (hc : d.clo = []) : ∃ fd, FunD K d.name d.qual (defArgs d.st) (defBody d.st) (defScope d.st) (d.dfl.map (He.Dv.v K)) [] (d.at_ K) fd := d.funD (T.says.def_ h).1 (T.says.def_ h).2 hc
end
section
variable {P : Program} {w : World} {K : Frag} {mg : Str → Option Value} {base : Heap}
/-- a def of the text without defaults keeps its promise -/
theorem fnr_mk {f : Addr} {x q : Str} {st : Stmt} {N ps : List Str} {k : Nat} {sp : Sp} (F : ∃ fd, FunD K x q (defArgs st) (defBody st) (defScope st) [] [] f fd) (S : FnScope N ps (defScope st))
    (hb : ∀ (kV doc pm : Value) (an : Option Addr) (cdv ct : Value) (us : List Value), us.length = ps.length → bindArgs (PySem.W.fnOf x q (defArgs st) (defBody st) (defScope st) .none kV doc pm an cdv ct) ⟨us, []⟩ = pure (ps.zip us))
    (len : ∀ vs H Q E, sp vs H Q E → vs.length = ps.length)
    (body : ∀ (cdv : Value) (A : Around) (outer : List Env) (s : Shared) (H : Hp) (vs : List V) (Q : VK) (E : XK), Room k (A.deeper (envOfC q (defScope st) s.heap.objs.size f cdv)) → sp vs H Q E →
      ∃ t, PSs (cxOf CX0 P w K mg base N q (defScope st) f cdv A outer s H E).nox (defBody st) t ∧ t { nx := fun _ H' => Q .non H', rt := Q } (start N vs) H) : FnR P w K mg base CX0 (k + 1) f sp := by
  obtain ⟨fd, F⟩ := F
  have G : FnOk P w K mg base CX0 (k + 1) f fd ps sp := F.ok S len fun cdv A outer s H vs Q E hr h => by
    obtain ⟨t, h1, h2⟩ := body cdv A outer s H vs Q E hr h
    exact ⟨t, h1.nox, h2⟩
  exact (G.raw (F.bindsN hb) .nil).imp fun vs H Q E h => by rw [List.append_nil]; exact h
theorem FunD.kp' {x q : Str} {a b c d e f : _} {fd : FuncData} (F : FunD K x q a b c d e f fd) : PySem.W.keepIn K (.ref f) = true := F.kp
end
end Pw
end

section
set_option maxRecDepth 100000
set_option maxHeartbeats 2000000
/-! What readings evaluate to: over HandS.Evl, for sequences, calls by name, comprehensions, properties. -/
namespace Pw
open PySem L2 Evl

/-- evaluates to some v of which P holds -/
def EvX (te : TE) (σ : St) (H : Hp) (P : V → Hp → Prop) : Prop := ∀ H1, Ex H H1 → ∀ Q : VK, (∀ v H2, Ex H1 H2 → P v H2 → Q v H2) → te σ H1 Q
def SpX (sp : Sp) (vs : List V) (H : Hp) (P : V → Hp → Prop) : Prop := ∀ H1, Ex H H1 → ∀ Q : VK, (∀ v H2, Ex H1 H2 → P v H2 → Q v H2) → ∀ E : XK, sp vs H1 Q E
/-- arguments, the values told by P -/
def EvAX (ta : TA) (σ : St) (H : Hp) (P : List V → Hp → Prop) : Prop := ∀ H1, Ex H H1 → ∀ Q : List V → Hp → Prop, (∀ vs H2, Ex H1 H2 → P vs H2 → Q vs H2) → ta σ H1 Q
section
variable {K : Frag} {σ : St} {H H' : Hp} {ta tb te tx tl : TE} {t u : TT} {x y z v : V} {r : R2} {p : Addr} {xs : List V} {P P' : V → Hp → Prop} {ar : TA} {vs : List V} {sp : Sp}
theorem EvX.mono (e : Ex H H') (h : EvX te σ H P) : EvX te σ H' P := fun H1 a Q q => h H1 (e.trans a) Q q
theorem Ev.toX (h : Ev te σ H v) : EvX te σ H (fun y _ => y = v) := fun H1 e Q q => h H1 e Q fun H2 e2 => q v H2 e2 rfl
theorem EvL.toX (h : EvL te σ H xs) : EvX te σ H (fun y H2 => ∃ p, y = .ref p ∧ H2 p = some (.lst xs)) := fun H1 e Q q => h H1 e Q fun p H2 _ e2 hp => q _ H2 e2 ⟨p, rfl, hp⟩
theorem EvU.toX (h : EvU te σ H xs) : EvX te σ H (fun y H2 => ∃ p, y = .ref p ∧ H2 p = some (.tup xs)) := fun H1 e Q q => h H1 e Q fun p H2 _ e2 hp => q _ H2 e2 ⟨p, rfl, hp⟩
theorem EvX.imp (h : EvX te σ H P) (i : ∀ v H1, Ex H H1 → P v H1 → P' v H1) : EvX te σ H P' := fun H1 e Q q => h H1 e Q fun v H2 e2 hp => q v H2 e2 (i v H2 (e.trans e2) hp)
theorem evx_op {P1 P2 : V → Hp → Prop} (ha : EvX ta σ H P1) (hb : ∀ x H1, Ex H H1 → P1 x H1 → EvX tb σ H1 P2)
    (hr : ∀ x y H1 H2, Ex H H1 → Ex H1 H2 → P1 x H1 → P2 y H2 → ∀ Q : VK, (∀ v H3, Ex H2 H3 → P v H3 → Q v H3) → r x y H2 Q) : EvX (tOp r ta tb) σ H P := fun H1 e Q q =>
  ha H1 e _ fun x H2 e2 p1 => hb x H2 (e.trans e2) p1 H2 (Ex.refl _) _ fun y H3 e3 p2 => hr x y H2 H3 (e.trans e2) e3 p1 p2 Q fun v H4 e4 hp => q v H4 ((e2.trans e3).trans e4) hp
theorem EvA.toX (h : EvA ar σ H vs) : EvAX ar σ H (fun ws _ => ws = vs) := fun H1 e Q q => h H1 e Q fun H2 e2 => q vs H2 e2 rfl
theorem eax_nil : EvAX tNil σ H (fun ws _ => ws = []) := fun H1 _ _ q => q [] H1 (Ex.refl _) rfl
theorem eax_cons {P1 : V → Hp → Prop} {P2 : V → List V → Hp → Prop} (h : EvX te σ H P1) (hr : ∀ x H1, Ex H H1 → P1 x H1 → EvAX ar σ H1 (P2 x)) :
    EvAX (tCons te ar) σ H (fun ws H2 => ∃ x r, ws = x :: r ∧ P2 x r H2) := fun H1 e Q q =>
  h H1 e _ fun x H2 e2 p1 => hr x H2 (e.trans e2) p1 H2 (Ex.refl _) _ fun r H3 e3 p2 => q _ H3 (e2.trans e3) ⟨x, r, rfl, p2⟩

/-! ### items, lengths, membership -/
theorem ev_ix {i : Int} (ha : Ev ta σ H (.ref p)) (hb : Ev tb σ H (.int i)) (hs : SqA K H p xs) (hx : atI xs i = some v) : Ev (tOp (rIx K) ta tb) σ H v :=
  ev_op ha hb fun H1 e Q q => hs.elim (fun h => .inl ⟨p, xs, i, v, rfl, rfl, ex_l e h, hx, q H1 (Ex.refl _)⟩) fun h => .inr (.inl ⟨p, xs, i, v, rfl, rfl, ex_t e h, hx, q H1 (Ex.refl _)⟩)
theorem ev_ixR {n : Nat} {f : Int → Int} {i : Int} (ha : Ev ta σ H (.ref p)) (hb : Ev tb σ H (.int i)) (hs : SqA K H p (rowV n f)) (h0 : 0 ≤ i) (h1 : i < n) : Ev (tOp (rIx K) ta tb) σ H (.int (f i)) :=
  ev_ix ha hb hs (atI_row h0 h1)
theorem ev_len' (ha : Ev ta σ H (.ref p)) (h : SqA K H p xs) : Ev (tCB (rLenS K) (tCons ta tNil)) σ H (.int (xs.length : Int)) := fun H1 e Q q =>
  ha H1 e _ fun H2 e2 => ⟨p, xs, rfl, (SqA.mono (e.trans e2) h), q H2 e2⟩
theorem ev_lenR {n : Nat} {f : Int → Int} (ha : Ev ta σ H (.ref p)) (h : SqA K H p (rowV n f)) : Ev (tCB (rLenS K) (tCons ta tNil)) σ H (.int (n : Int)) := by
  have := ev_len' ha h
  rw [rowV_len] at this
  exact this
theorem ev_in {i : Int} {l : List Int} (ha : Ev ta σ H (.int i)) (hb : Ev tb σ H (.ref p)) (hs : SqA K H p (intV l)) : Ev (tOp (rIn K false) ta tb) σ H (.bl (l.contains i)) :=
  ev_op ha hb fun H1 e Q q => ⟨p, intV l, rfl, SqA.mono e hs, rfl, flat_int l, by
    have e1 : inV (.int i) (intV l) = l.contains i := inV_int
    rw [e1]
    exact q H1 (Ex.refl _)⟩
theorem ev_notin {i : Int} {l : List Int} (ha : Ev ta σ H (.int i)) (hb : Ev tb σ H (.ref p)) (hs : SqA K H p (intV l)) : Ev (tOp (rIn K true) ta tb) σ H (.bl (!l.contains i)) :=
  ev_op ha hb fun H1 e Q q => ⟨p, intV l, rfl, SqA.mono e hs, rfl, flat_int l, by
    have e1 : inV (.int i) (intV l) = l.contains i := inV_int
    rw [e1]
    exact q H1 (Ex.refl _)⟩
theorem et_tru (ha : Ev ta σ H (.ref p)) (hs : SqA K H p xs) : EvT (tTru K ta) σ H (!xs.isEmpty) := fun H1 e Q q => ha H1 e _ fun H2 e2 =>
  ⟨_, hs.elim (fun h => .inl ⟨xs, ex_l (e.trans e2) h, rfl⟩) fun h => .inr (.inl ⟨xs, ex_t (e.trans e2) h, rfl⟩), q H2 e2⟩
theorem et_truL (ha : EvL ta σ H xs) : EvT (tTru K ta) σ H (!xs.isEmpty) := fun H1 e Q q => ha H1 e _ fun p H2 _ e2 hp => ⟨_, .inl ⟨xs, sq_of hp, rfl⟩, q H2 e2⟩
/-- min and max of a new list, of a list that stands -/
theorem ev_minL {l : List Int} (ha : EvL ta σ H (intV l)) (hl : l ≠ []) : Ev (tCB (rMin K) (tCons ta tNil)) σ H (.int (minOf l)) := fun H1 e Q q =>
  ha H1 e _ fun p H2 _ e2 hp => ⟨p, l, rfl, sq_of hp, List.length_pos_iff.mpr hl, fun m h1 h2 => by rw [minOf_is h1 h2]; exact q H2 e2⟩
theorem ev_maxL {l : List Int} (ha : EvL ta σ H (intV l)) (hl : l ≠ []) : Ev (tCB (rMax K) (tCons ta tNil)) σ H (.int (maxOf l)) := fun H1 e Q q =>
  ha H1 e _ fun p H2 _ e2 hp => ⟨p, l, rfl, sq_of hp, List.length_pos_iff.mpr hl, fun m h1 h2 => by rw [maxOf_is h1 h2]; exact q H2 e2⟩
theorem ev_minS {l : List Int} (ha : Ev ta σ H (.ref p)) (h : SqL K H p (intV l)) (hl : l ≠ []) : Ev (tCB (rMin K) (tCons ta tNil)) σ H (.int (minOf l)) := fun H1 e Q q =>
  ha H1 e _ fun H2 e2 => ⟨p, l, rfl, ex_l (e.trans e2) h, List.length_pos_iff.mpr hl, fun m h1 h2 => by rw [minOf_is h1 h2]; exact q H2 e2⟩
theorem ev_maxS {l : List Int} (ha : Ev ta σ H (.ref p)) (h : SqL K H p (intV l)) (hl : l ≠ []) : Ev (tCB (rMax K) (tCons ta tNil)) σ H (.int (maxOf l)) := fun H1 e Q q =>
  ha H1 e _ fun H2 e2 => ⟨p, l, rfl, ex_l (e.trans e2) h, List.length_pos_iff.mpr hl, fun m h1 h2 => by rw [maxOf_is h1 h2]; exact q H2 e2⟩
def rMax2' : List V → Hp → VK → Prop := fun xs H Q => ∃ i j, xs = [.int i, .int j] ∧ Q (.int (if j > i then j else i)) H
def rMin2' : List V → Hp → VK → Prop := fun xs H Q => ∃ i j, xs = [.int i, .int j] ∧ Q (.int (if j < i then j else i)) H
theorem ev_mx {i j : Int} (ha : Ev ta σ H (.int i)) (hb : Ev tb σ H (.int j)) : Ev (tCB rMax2' (tCons ta (tCons tb tNil))) σ H (.int (max i j)) := fun H1 e Q q =>
  ha H1 e _ fun H2 e2 => hb H2 (e.trans e2) _ fun H3 e3 => ⟨i, j, rfl, by
    have : (if j > i then j else i) = max i j := by split <;> omega
    rw [this]
    exact q H3 (e2.trans e3)⟩
theorem ev_mn {i j : Int} (ha : Ev ta σ H (.int i)) (hb : Ev tb σ H (.int j)) : Ev (tCB rMin2' (tCons ta (tCons tb tNil))) σ H (.int (min i j)) := fun H1 e Q q =>
  ha H1 e _ fun H2 e2 => hb H2 (e.trans e2) _ fun H3 e3 => ⟨i, j, rfl, by
    have : (if j < i then j else i) = min i j := by split <;> omega
    rw [this]
    exact q H3 (e2.trans e3)⟩
def rInt1 : List V → Hp → VK → Prop := fun xs H Q => (∃ i, xs = [.int i] ∧ Q (.int i) H) ∨ ∃ k, xs = [.bl k] ∧ Q (.int (if k then 1 else 0)) H
theorem ev_intI {i : Int} (ha : Ev ta σ H (.int i)) : Ev (tCB rInt1 (tCons ta tNil)) σ H (.int i) := fun H1 e Q q => ha H1 e _ fun H2 e2 => .inl ⟨i, rfl, q H2 e2⟩
def b1 (b : Bool) : Int := if b then 1 else 0
theorem ev_intB {b : Bool} (ha : Ev ta σ H (.bl b)) : Ev (tCB rInt1 (tCons ta tNil)) σ H (.int (b1 b)) := fun H1 e Q q => ha H1 e _ fun H2 e2 => .inr ⟨b, rfl, q H2 e2⟩
/-! list(x), tuple(x) -/
def rTupS (K : Frag) : List V → Hp → VK → Prop := fun xs H Q => ∃ p ys, xs = [.ref p] ∧ ((SqL K H p ys ∧ ∀ l, H l = none → Q (.ref l) (upd H l (.tup ys))) ∨ (SqT K H p ys ∧ Q (.ref p) H))
theorem el_listA (ha : Ev ta σ H (.ref p)) (h : SqA K H p xs) : EvL (tCB (rListS K) (tCons ta tNil)) σ H xs := fun H1 e Q q =>
  ha H1 e _ fun H2 e2 => ⟨p, xs, rfl, SqA.mono (e.trans e2) h, fun l hl => q l _ (fresh_back e2 hl) (e2.trans (Ex.new hl)) upd_same⟩
theorem el_listX {P : V → Hp → Prop} (ha : EvX ta σ H P) (h : ∀ y H1, Ex H H1 → P y H1 → ∃ p, y = .ref p ∧ SqA K H1 p xs) : EvL (tCB (rListS K) (tCons ta tNil)) σ H xs := fun H1 e Q q =>
  ha H1 e _ fun y H2 e2 hp => by
    obtain ⟨p, rfl, hs⟩ := h y H2 (e.trans e2) hp
    exact ⟨p, xs, rfl, hs, fun l hl => q l _ (fresh_back e2 hl) (e2.trans (Ex.new hl)) upd_same⟩
theorem evx_tupL (ha : EvL ta σ H xs) : EvX (tCB (rTupS K) (tCons ta tNil)) σ H (fun y H2 => ∃ p, y = .ref p ∧ SqT K H2 p xs) := fun H1 e Q q =>
  ha H1 e _ fun p H2 _ e2 hp => ⟨p, xs, rfl, .inl ⟨sq_of hp, fun l hl => q _ _ (e2.trans (Ex.new hl)) ⟨l, rfl, st_of upd_same⟩⟩⟩
theorem evx_tupA (ha : Ev ta σ H (.ref p)) (h : SqA K H p xs) : EvX (tCB (rTupS K) (tCons ta tNil)) σ H (fun y H2 => ∃ p, y = .ref p ∧ SqT K H2 p xs) := fun H1 e Q q =>
  ha H1 e _ fun H2 e2 => ⟨p, xs, rfl, h.elim (fun z => .inl ⟨ex_l (e.trans e2) z, fun l hl => q _ _ (e2.trans (Ex.new hl)) ⟨l, rfl, st_of upd_same⟩⟩) fun z => .inr ⟨ex_t (e.trans e2) z, q _ _ e2 ⟨p, rfl, ex_t (e.trans e2) z⟩⟩⟩
/-- .. of what is told by P -/
theorem evx_tupX {P : V → Hp → Prop} (ha : EvX ta σ H P) (h : ∀ y H1, Ex H H1 → P y H1 → ∃ p, y = .ref p ∧ SqA K H1 p xs) : EvX (tCB (rTupS K) (tCons ta tNil)) σ H (fun y H2 => ∃ p, y = .ref p ∧ SqT K H2 p xs) := fun H1 e Q q =>
  ha H1 e _ fun y H2 e2 hp => by
    obtain ⟨p, rfl, hs⟩ := h y H2 (e.trans e2) hp
    exact ⟨p, xs, rfl, hs.elim (fun z => .inl ⟨z, fun l hl => q _ _ (e2.trans (Ex.new hl)) ⟨l, rfl, st_of upd_same⟩⟩) fun z => .inr ⟨z, q _ _ e2 ⟨p, rfl, z⟩⟩⟩

/-! ### calls by name -/
theorem ev_fn (h : EvA ar σ H vs) (hs : SpV sp vs H z) : Ev (tFn sp ar) σ H z := fun H1 e Q q => h H1 e _ fun H2 e2 => hs H2 (e.trans e2) Q (fun H3 e3 => q H3 (e2.trans e3)) E0
theorem evx_fn (h : EvA ar σ H vs) (hs : SpX sp vs H P) : EvX (tFn sp ar) σ H P := fun H1 e Q q => h H1 e _ fun H2 e2 => hs H2 (e.trans e2) Q (fun v H3 e3 hp => q v H3 (e2.trans e3) hp) E0
theorem evx_fnX {PA : List V → Hp → Prop} (h : EvAX ar σ H PA) (hs : ∀ vs H1, Ex H H1 → PA vs H1 → SpX sp vs H1 P) : EvX (tFn sp ar) σ H P := fun H1 e Q q =>
  h H1 e _ fun vs H2 e2 hp => hs vs H2 (e.trans e2) hp H2 (Ex.refl _) Q (fun v H3 e3 hv => q v H3 (e2.trans e3) hv) E0
theorem ev_fnX {PA : List V → Hp → Prop} (h : EvAX ar σ H PA) (hs : ∀ vs H1, Ex H H1 → PA vs H1 → SpV sp vs H1 z) : Ev (tFn sp ar) σ H z := fun H1 e Q q =>
  h H1 e _ fun vs H2 e2 hp => hs vs H2 (e.trans e2) hp H2 (Ex.refl _) Q (fun H3 e3 => q H3 (e2.trans e3)) E0

/-! ### comprehensions -/
def CwG (H : Hp) (acc : Nat → List V) (Dl : Addr) (i : Nat) (H' : Hp) : Prop := H Dl = none ∧ Ex H H' ∧ H' Dl = some (.lst (acc i))
/-- a turn: the test, the element -/
theorem cwg_turn {H H' : Hp} {acc : Nat → List V} {f : Bool} {v : V} {Dl : Addr} {i : Nat} {σ2 : St} (p : CwG H acc Dl i H') (hl : (acc i).length < 100000) (ht : EvT t σ2 H f) (he : f = true → Ev te σ2 H v)
    (hy : f = true → acc (i + 1) = acc i ++ [v]) (hn : f = false → acc (i + 1) = acc i) :
    t σ2 H' fun b H3 => if b = true then te σ2 H3 fun y H4 => ∃ ac, H4 Dl = some (.lst ac) ∧ ac.length < sizeLine ∧ CwG H acc Dl (i + 1) (upd H4 Dl (.lst (ac ++ [y]))) else CwG H acc Dl (i + 1) H3 := by
  obtain ⟨p1, p2, p3⟩ := p
  refine ht H' p2 _ fun H3 e3 => ?_
  cases hf : f with
  | true =>
    show te σ2 H3 fun y H4 => ∃ ac, H4 Dl = some (.lst ac) ∧ ac.length < sizeLine ∧ CwG H acc Dl (i + 1) (upd H4 Dl (.lst (ac ++ [y])))
    refine he hf H3 (p2.trans e3) _ fun H4 e4 => ⟨acc i, e4 Dl _ (e3 Dl _ p3), sz_lt hl, p1, Ex.mut ((p2.trans e3).trans e4) p1, ?_⟩
    rw [hy hf]
    exact upd_same
  | false =>
    show CwG H acc Dl (i + 1) H3
    refine ⟨p1, p2.trans e3, ?_⟩
    rw [hn hf]
    exact e3 Dl _ p3
/-- what has been taken by turn i -/
def took {α : Type} (l : List α) (f : α → Bool) (g : α → V) (i : Nat) : List V := ((l.take i).filter f).map g
theorem took_more {α : Type} {l : List α} {f : α → Bool} {g : α → V} {i : Nat} {a : α} (h : l[i]? = some a) : took l f g (i + 1) = took l f g i ++ (if f a = true then [g a] else []) := by
  unfold took
  rw [List.take_add_one, h]
  show ((l.take i ++ [a]).filter f).map g = _
  rw [List.filter_append, List.map_append]
  congr 1
  rw [List.filter_cons]
  split <;> rfl
theorem took_len {α : Type} (l : List α) (f : α → Bool) (g : α → V) (i : Nat) : (took l f g i).length ≤ l.length := by
  unfold took
  rw [List.length_map]
  exact Nat.le_trans (List.length_filter_le _ _) (by rw [List.length_take]; omega)
theorem took_all {α : Type} (l : List α) (f : α → Bool) (g : α → V) : took l f g l.length = (l.filter f).map g := by
  unfold took
  rw [List.take_length]
section
variable {α : Type} {l : List α} {emb : α → V} {f : α → Bool} {g : α → V} {j : Nat} {ws : List Nat}
/-- [e for x in xs if t], xs a list or a tuple -/
theorem el_lc (hx : EvX tl σ H (fun y H1 => ∃ p, y = .ref p ∧ SqA K H1 p (l.map emb))) (hz : l.length < 100000) (hw : ∀ x, wipe ((wipe σ ws).set j (some x)) ws = wipe σ ws)
    (ht : ∀ a H1, Ex H H1 → a ∈ l → EvT t ((wipe σ ws).set j (some (emb a))) H1 (f a)) (he : ∀ a H1, Ex H H1 → a ∈ l → f a = true → Ev te ((wipe σ ws).set j (some (emb a))) H1 (g a)) :
    EvL (tLc (iSeq K tl) (gName j) t te ws) σ H ((l.filter f).map g) := fun H0 e Q q => hx H0 e _ fun y H1 e1 ⟨p, ey, hs⟩ => by
  subst ey
  have key : ∀ (i : Nat) (x : V) (H' : Hp) (Dl : Addr), (l.map emb)[i]? = some x → CwG H1 (took l f g) Dl i H' →
      gName j x (wipe σ ws) H' fun σ2 H2 => wipe σ2 ws = wipe σ ws ∧ t σ2 H2 fun b H3 =>
      if b = true then te σ2 H3 fun y H4 => ∃ acc, H4 Dl = some (.lst acc) ∧ acc.length < sizeLine ∧ CwG H1 (took l f g) Dl (i + 1) (upd H4 Dl (.lst (acc ++ [y]))) else CwG H1 (took l f g) Dl (i + 1) H3 := fun i x H' Dl hi pc => by
    rw [List.getElem?_map] at hi
    cases ha : l[i]? with
    | none => rw [ha] at hi; cases hi
    | some a =>
      rw [ha] at hi
      have ex : emb a = x := Option.some.inj hi
      subst ex
      have hm : a ∈ l := List.mem_of_getElem? ha
      refine ⟨hw _, cwg_turn pc (Nat.lt_of_le_of_lt (took_len _ _ _ _) hz) (ht a H1 (e.trans e1) hm) (he a H1 (e.trans e1) hm) (fun hf => ?_) (fun hf => ?_)⟩
      · rw [took_more ha, if_pos hf]
      · rw [took_more ha, if_neg (by rw [hf]; exact Bool.false_ne_true), List.append_nil]
  have fin : ∀ (Dl : Addr) (H' : Hp), CwG H1 (took l f g) Dl (l.map emb).length H' → Q (.ref Dl) H' := fun Dl H' pc => by
    obtain ⟨p1, p2, p3⟩ := pc
    rw [List.length_map, took_all] at p3
    exact q Dl H' (fresh_back e1 p1) (e1.trans p2) p3
  refine ⟨p, rfl, ?_⟩
  rcases hs with hs | hs
  · exact .inl ⟨⟨_, hs⟩, fun Dl hD => lc_list (xs := l.map emb) (CwG H1 (took l f g) Dl) ⟨hD, Ex.new hD, upd_same⟩ (fun i H' _ pc => ex_l pc.2.1 hs) (fun i x H' hi pc => key i x H' Dl hi pc) (fun H' pc => fin Dl H' pc)⟩
  · exact .inr ⟨⟨_, hs⟩, fun Dl hD => lc_tup (xs := l.map emb) (CwG H1 (took l f g) Dl) ⟨hD, Ex.new hD, upd_same⟩ (fun i H' _ pc => ex_t pc.2.1 hs) (fun i x H' hi pc => key i x H' Dl hi pc) (fun H' pc => fin Dl H' pc)⟩
end
def ran (n : Nat) : List Int := (List.range n).map fun (i : Nat) => (i : Int)
theorem mem_ran {n : Nat} {v : Int} : v ∈ ran n ↔ 0 ≤ v ∧ v < n := by
  unfold ran
  rw [List.mem_map]
  constructor
  · rintro ⟨i, hi, rfl⟩
    have := List.mem_range.mp hi
    omega
  · rintro ⟨h0, h1⟩
    exact ⟨v.toNat, List.mem_range.mpr (by omega), by omega⟩
theorem ran_len (n : Nat) : (ran n).length = n := by unfold ran; rw [List.length_map, List.length_range]
theorem ran_get {n i : Nat} (h : i < n) : (ran n)[i]? = some (i : Int) := by
  unfold ran
  rw [List.getElem?_map, List.getElem?_range h] <;> rfl
theorem rowV_ran (n : Nat) (f : Int → Int) : rowV n f = (ran n).map fun v => V.int (f v) := by
  unfold rowV ran
  rw [List.map_map] <;> rfl
theorem rowV_int (n : Nat) (f : Int → Int) : rowV n f = intV ((ran n).map f) := by
  rw [rowV_ran]
  unfold intV
  rw [List.map_map] <;> rfl
section
variable {f : Int → Bool} {g : Int → V} {j : Nat} {ws : List Nat} {n : Int}
/-- [e for i in range(n) if t] -/
theorem el_lr (h : EvA ar σ H [.int n]) (hn : 0 ≤ n ∧ n ≤ 40000) (hw : ∀ x, wipe ((wipe σ ws).set j (some x)) ws = wipe σ ws)
    (ht : ∀ (a : Int) H1, Ex H H1 → 0 ≤ a → a < n → EvT t ((wipe σ ws).set j (some (.int a))) H1 (f a)) (he : ∀ (a : Int) H1, Ex H H1 → 0 ≤ a → a < n → f a = true → Ev te ((wipe σ ws).set j (some (.int a))) H1 (g a)) :
    EvL (tLc (iRng1 ar) (gName j) t te ws) σ H (((ran n.toNat).filter f).map g) := fun H0 e Q q => h H0 e _ fun H1 e1 => ⟨n, rfl, by omega, by omega, fun Dl hD =>
  lc_range (lo := 0) (n := n.toNat) (CwG H1 (took (ran n.toNat) f g) Dl) ⟨hD, Ex.new hD, upd_same⟩ (fun i H' hi pc => by
    have e0 : (0 : Int) + (i : Int) = (i : Int) := Int.zero_add _
    show wipe ((wipe σ ws).set j (some (.int ((0 : Int) + (i : Int))))) ws = wipe σ ws ∧ t ((wipe σ ws).set j (some (.int ((0 : Int) + (i : Int))))) H' fun b H3 => if b = true then te ((wipe σ ws).set j (some (.int ((0 : Int) + (i : Int))))) H3 fun y H4 => ∃ acc, H4 Dl = some (.lst acc) ∧ acc.length < sizeLine ∧ CwG H1 (took (ran n.toNat) f g) Dl (i + 1) (upd H4 Dl (.lst (acc ++ [y]))) else CwG H1 (took (ran n.toNat) f g) Dl (i + 1) H3
    rw [e0]
    refine ⟨hw _, cwg_turn pc (Nat.lt_of_le_of_lt (took_len _ _ _ _) (by rw [ran_len]; omega)) (ht i H1 (e.trans e1) (by omega) (by omega)) (he i H1 (e.trans e1) (by omega) (by omega)) (fun hf => ?_) (fun hf => ?_)⟩
    · rw [took_more (ran_get hi), if_pos hf]
    · rw [took_more (ran_get hi), if_neg (by rw [hf]; exact Bool.false_ne_true), List.append_nil]) (fun H' pc => by
    obtain ⟨p1, p2, p3⟩ := pc
    have e2 : took (ran n.toNat) f g n.toNat = ((ran n.toNat).filter f).map g := by
      have := took_all (ran n.toNat) f g
      rw [ran_len] at this
      exact this
    rw [e2] at p3
    exact q Dl H' (fresh_back e1 p1) (e1.trans p2) p3)⟩
theorem et_yes : EvT tYes σ H true := fun H1 _ _ q => q H1 (Ex.refl _)
end
theorem filter_yes {α : Type} (l : List α) : l.filter (fun _ => true) = l := List.filter_eq_self.mpr fun _ _ => rfl

/-! ### statements -/
variable {D : Ends} {tu tw tz : TS}
theorem q_asgX {i : Nat} (h : EvX te σ H P) (k : ∀ v H1, Ex H H1 → P v H1 → tz D (σ.set i (some v)) H1) : tSeq (tAsg te (gName i)) tz D σ H := h H (Ex.refl H) _ fun v H1 e hp => k v H1 e hp
theorem s_asgX {i : Nat} (h : EvX te σ H P) (k : ∀ v H1, Ex H H1 → P v H1 → D.nx (σ.set i (some v)) H1) : tAsg te (gName i) D σ H := h H (Ex.refl H) _ fun v H1 e hp => k v H1 e hp
theorem s_retX (h : EvX te σ H P) (k : ∀ v H1, Ex H H1 → P v H1 → D.rt v H1) : tRet te D σ H := h H (Ex.refl H) _ fun v H1 e hp => k v H1 e hp
/-- a look that never raises: if bad: raise .. -/
theorem q_not (h : EvT t σ H false) (k : ∀ H1, Ex H H1 → tz D σ H1) : tSeq (tIfS t tu tNext) tz D σ H := q_when h (fun z => nomatch z) fun _ => k
theorem s_not (h : EvT t σ H false) (k : ∀ H1, Ex H H1 → D.nx σ H1) : tIfS t tu tNext D σ H := s_when h (fun z => nomatch z) fun _ => k
/-- what stands at p stands as it was -/
def Keep (K : Frag) (H H' : Hp) (p : Addr) : Prop := ∀ xs, (SqL K H p xs → SqL K H' p xs) ∧ (SqT K H p xs → SqT K H' p xs)
theorem Keep.ex (e : Ex H H') : Keep K H H' p := fun xs => ⟨ex_l e, ex_t e⟩
theorem Keep.eq (e : ∀ o, H p = some o → H' p = some o) : Keep K H H' p := fun xs =>
  ⟨fun h => h.elim (fun z => .inl (z.elim (fun y => .inl (e _ y)) fun ⟨o, y⟩ => .inr ⟨o, e _ y⟩)) .inr, fun h => h.elim (fun z => .inl (z.elim (fun y => .inl (e _ y)) fun ⟨o, y⟩ => .inr ⟨o, e _ y⟩)) .inr⟩
/-- for x in xs, xs a list or a tuple -/
theorem s_forA {g : TG} (hx : EvX tl σ H (fun y H1 => ∃ p, y = .ref p ∧ SqA K H1 p xs))
    (k : ∀ p H1, Ex H H1 → SqA K H1 p xs → ∃ Pv : Nat → L2.St → Hp → Prop, Pv 0 σ H1 ∧ (∀ i σ' H', Pv i σ' H' → Keep K H1 H' p) ∧
      (∀ i x σ' H', xs[i]? = some x → Pv i σ' H' → g x σ' H' fun σ2 H2 => tu { D with nx := Pv (i + 1), ct := Pv (i + 1), bk := D.nx } σ2 H2) ∧ ∀ σ' H', Pv xs.length σ' H' → D.nx σ' H') : tFor (iSeq K tl) g tu D σ H := hx H (Ex.refl H) _ fun y H1 e ⟨p, ey, hs⟩ => by
  subst ey
  obtain ⟨Pv, h0, hl, ht, hd⟩ := k p H1 e hs
  refine ⟨p, rfl, ?_⟩
  rcases hs with hs | hs
  · exact .inl ⟨⟨_, hs⟩, for_list (K := K) (a := p) (xs := xs) Pv h0 (fun i σ' H' _ pc => ((hl i σ' H' pc) xs).1 hs) ht hd⟩
  · exact .inr ⟨⟨_, hs⟩, for_tup (K := K) (a := p) (xs := xs) Pv h0 (fun i σ' H' _ pc => ((hl i σ' H' pc) xs).2 hs) ht hd⟩
theorem q_forA {g : TG} (hx : EvX tl σ H (fun y H1 => ∃ p, y = .ref p ∧ SqA K H1 p xs))
    (k : ∀ p H1, Ex H H1 → SqA K H1 p xs → ∃ Pv : Nat → L2.St → Hp → Prop, Pv 0 σ H1 ∧ (∀ i σ' H', Pv i σ' H' → Keep K H1 H' p) ∧
      (∀ i x σ' H', xs[i]? = some x → Pv i σ' H' → g x σ' H' fun σ2 H2 => tu { D with nx := Pv (i + 1), ct := Pv (i + 1), bk := tz D } σ2 H2) ∧ ∀ σ' H', Pv xs.length σ' H' → tz D σ' H') : tSeq (tFor (iSeq K tl) g tu) tz D σ H :=
  s_forA (D := { D with nx := tz D }) hx k
theorem ea_of (h : Ev te σ H (.ref p)) (hs : SqA K H p xs) : EvX te σ H (fun y H1 => ∃ p, y = .ref p ∧ SqA K H1 p xs) := fun H1 e Q q => h H1 e Q fun H2 e2 => q _ H2 e2 ⟨p, rfl, SqA.mono (e.trans e2) hs⟩
theorem ea_ofL (h : EvL te σ H xs) : EvX te σ H (fun y H1 => ∃ p, y = .ref p ∧ SqA K H1 p xs) := fun H1 e Q q => h H1 e Q fun p H2 _ e2 hp => q _ H2 e2 ⟨p, rfl, .lst hp⟩
end
end Pw
end

section
set_option maxRecDepth 100000
set_option maxHeartbeats 4000000
/-! Rules that this proof wants besides: set(xs) of a list, max of a tuple, a tuple times an int, order of lists, made and called objects by name. -/
namespace PwS
open PySem PySem.Spec PyProof.Rows L2
/-! ### set(xs) of a list of ints (turned from the tuple's) -/
abbrev fset (w : World) : Obj := { cls := .type "set", dict := none, data := .set #[] 0 (.fresh 0 0 (!w.params.followText "set-order")) }
section
variable {P : Program} {w : World} {A : Around} {E : Value → Shared → Prop} {s : Shared}
set_option maxHeartbeats 8000000 in
theorem set_of_list {l : Addr} {items : Array Value} (ns : List Int) {Q : Value → Shared → Prop} (hh : A.handled = none) (hl : s.heap.IsList l items) (hit : IntsAre items.toList ns) (hb : ns.length + 1 < scanBound)
    (h : ∀ (h' : Heap) (tk c : Nat), SetR w h' s.heap.objs.size (fun j => decide (j ∈ ns)) c → c ≤ ns.length → (∀ b o, s.heap.get? b = some o → h'.get? b = some o) → Q (.ref s.heap.objs.size) { s with heap := h', toks := tk }) :
    wpAny (model P w) A (call (.type "set") [.ref l]) Q E s := by
  have hisz : items.size = ns.length := (Array.length_toList (xs := items)).symm.trans (IntsAre.length hit)
  obtain ⟨c, tl, hmro⟩ := F.called_set.mro
  have hmade := F.called_set.made
  have hsub := F.called_set.sub
  refine wpAny_call (codeAny_of_tree ?_)
  show wpAny _ _ (callAny (.type "set") _) _ _ _
  refine wpAny_pure ⟨Code.quiet_builtin _ (by decide +kernel), codeAny_builtin F.entry_type_call ?_⟩
  rw [Around.under_plain (weight_type_call_type "set" [.ref l] []) rfl]
  have h1 := F.called_set.notType
  have h2 := F.called_set.canCreate
  have hct := F.typeCall_set_1 (.ref l)
  repeat (any_goals (first | assumption | wp_step))
  refine codeAny_mono (code_set_led1 (.ref l) (E := E) (Q₁ := fun obj s₁ => obj = .ref s.heap.objs.size ∧ s₁ = { s with heap := s.heap.push (fset w) }) ⟨rfl, rfl⟩) fun r s₁ hr => ?_
  cases r with
  | error e => exact hr
  | ok fl =>
    cases fl with
    | ret obj =>
      obtain ⟨rfl, rfl⟩ := hr
      have hS : (s.heap.push (fset w)).get? s.heap.objs.size = some (fset w) := Heap.get?_push_size _ rfl
      have hT : Shared.TypeIs { s with heap := s.heap.push (fset w) } (.ref s.heap.objs.size) "set" := ⟨_, hS, rfl⟩
      have hli := F.called_set.init.lookup
      have hbi := F.called_set.init.bind (.ref s.heap.objs.size)
      repeat (any_goals (first | assumption | wp_step))
      refine codeAny_mono (codeAny_call_builtin (R := wants (fun r s₂ => r = .none ∧ ∃ h' tk c, s₂ = { s with heap := h', toks := tk } ∧ SetR w h' s.heap.objs.size (fun j => decide (j ∈ ns)) c ∧ c ≤ ns.length ∧
          (∀ b o, s.heap.get? b = some o → h'.get? b = some o)) E) F.called_set.init.plain F.entry_set_init (check_set_init_1 hT ?_)) fun r₂ s₂ hr₂ => ?_
      · obtain ⟨ol, hol, hcl, nl, hdl⟩ := hl
        obtain ⟨ocls, odict, odata, oslots⟩ := ol
        simp only at hcl hdl
        subst hcl; subst hdl
        have hol' : (s.heap.push (fset w)).get? l = some { cls := .type "list", dict := odict, data := .seq items nl, slots := oslots } := Heap.get?_push_of_some _ hol
        have hsls := F.sub_list_set
        have hslf := F.sub_list_frozenset
        have hne : (Value.type "list" == Value.type "dict") = false := by decide
        have hl1 : (s.heap.push (fset w)).IsList l items := ⟨_, hol', rfl, nl, rfl⟩
        unfold Builtin.«set.__init__» noKeywords Builtin.Frozenset.updateFrom
        generalize hPI : pyIter = PI
        wp_walk
        subst hPI
        refine wpAny_pyIter_list hl1 ?_
        refine wpAny_bind (wpAny_runValue ?_)
        have hlS : l < s.heap.objs.size := Heap.lt_size hol
        have hh3 : A.in1.in1.in1.handled = none := by simp [hh]
        have hneI : l ≠ (s.heap.push (fset w)).objs.size := by
          rw [Heap.size_push]; exact Nat.ne_of_lt (Nat.lt_succ_of_lt hlS)
        have hSf : s.heap.objs.size ∉ [(s.heap.push (fset w)).objs.size, l] := by
          rw [Heap.size_push]; simp only [List.mem_cons, List.mem_singleton, List.not_mem_nil, or_false, not_or]
          exact ⟨Nat.ne_of_lt (Nat.lt_succ_self _), Nat.ne_of_gt hlS⟩
        have hval : ∀ (i : Nat) (v : Value), items[i]? = some v → ∃ k t, ns[i]? = some k ∧ v = .int k t := fun i v hv => by
          have hi : i < ns.length := by rw [← hisz]; exact (Array.getElem?_eq_some_iff.mp hv).1
          obtain ⟨t, e⟩ := PyProof.Rows.IntsAre.int_at hit i v (by rw [Array.getElem?_toList]; exact hv)
          refine ⟨ns[i], t, List.getElem?_eq_getElem hi, ?_⟩
          rw [e, List.getD_eq_getElem?_getD, List.getElem?_eq_getElem hi] <;> rfl
        refine set_update_ints ((Walks.list hh3 _ l hneI items).toS) s.heap.objs.size
          hSf ns hisz hb hval (items.size - 0) 0 _ (by omega) (Nat.zero_le _)
          ⟨⟨_, Heap.get?_push_size _ rfl, rfl, rfl⟩, (hl1.push _)⟩ ?hS0 ?hR
        case hS0 => exact ⟨0, Nat.le_refl 0, setR_new_at (Heap.get?_push_of_some _ hS)⟩
        case hR =>
          intro s' c' hm hc' hS'
          obtain ⟨h', g2, d', tk', os'⟩ := s'
          have eg : g2 = s.gens := hm.gens
          have ed : d' = s.drawn := hm.drawn
          have eo : os' = s.os := hm.os
          subst eg; subst ed; subst eo
          show wpAny _ _ _ _ _ _
          refine wpAny_pure ?_
          show wpAny _ _ (ret Value.none) _ _ _
          rw [hisz] at hc'
          refine wpAny_pure ⟨rfl, h', tk', c', rfl, hS', hc', fun b o e => ?_⟩
          have hb0 : b < s.heap.objs.size := Heap.lt_size e
          have hb1 : b ≠ s.heap.objs.size := Nat.ne_of_lt hb0
          have hb2 : b ≠ (s.heap.push (fset w)).objs.size := by
            rw [Heap.size_push]; exact Nat.ne_of_lt (Nat.lt_succ_of_lt hb0)
          exact hm.heap b o (by simp only [List.mem_cons, List.mem_singleton, List.not_mem_nil, or_false, not_or]; exact ⟨hb1, hb2⟩) (Heap.get?_push_of_some _ (Heap.get?_push_of_some _ e))
      · cases r₂ with
        | error e => exact hr₂
        | ok fl₂ =>
          cases fl₂ with
          | ret r =>
            obtain ⟨rfl, h', tk, c', rfl, hS', hc', hk'⟩ := hr₂
            repeat (any_goals (first | assumption | wp_step))
            exact h _ _ _ hS' hc' hk'
          | _ => exact hr₂.elim
    | _ => exact hr.elim
end
section
variable {X : Cx}
/-- set(xs) -/
def rSetA (K : PySem.W.Frag) (w : World) : List V → Hp → VK → Prop := fun vs H Q => ∃ (a : Addr) (l : List Int), vs = [.ref a] ∧ (SqL K H a (l.map V.int) ∨ SqT K H a (l.map V.int)) ∧ l.length ≤ 1000 ∧
  ∀ p n, n ≤ l.length → H p = none → Q (.ref p) (upd H p (SetO w p (fun j => decide (j ∈ l)) n))
theorem call_setA (hc : X.calm = true) : CallR X (.type "set") (rSetA X.K X.w) := by
  intro pins s σ H vs us Q I r h
  obtain ⟨a, l, rfl, hs, hz, q⟩ := h
  rw [Vals.ref1 r]
  have fin : ∀ (h' : Heap) (tk c : Nat), SetR X.w h' s.heap.objs.size (fun j => decide (j ∈ l)) c → c ≤ l.length → (∀ b o, s.heap.get? b = some o → h'.get? b = some o) → EP X pins σ Q (.ref s.heap.objs.size) { s with heap := h', toks := tk } := fun h' tk c R hcl k =>
    ⟨.ref _, _, I.laid (t' := tk) k (Nat.le_refl _) (setO_new R), rfl, q _ c hcl (I.hok.fresh (Nat.le_refl _))⟩
  rcases hs with hs | hs
  · obtain ⟨its, rv, hl, hz2⟩ := I.list hs
    exact set_of_list l (I.ok.hd hc) hl.isList (by simpa using rv.ints) (by unfold scanBound; omega) fin
  · obtain ⟨its, rv, hl, hz2⟩ := I.tuple hs
    exact call_set_tupI l (I.ok.hd hc) (show s.heap.IsTuple a its.toArray from hl) (by simpa using rv.ints) (by unfold scanBound; omega) fin
/-- max of a list or a tuple of ints -/
def rMaxA (K : PySem.W.Frag) : List V → Hp → VK → Prop := fun vs H Q => ∃ (a : Addr) (x : Int) (l : List Int), vs = [.ref a] ∧ (SqL K H a ((x :: l).map V.int) ∨ SqT K H a ((x :: l).map V.int)) ∧ Q (.int (l.foldl max x)) H
theorem reads_ints {h : Heap} : ∀ {us : List Value} {ns : List Int}, IntsAre us ns → ∃ as, ReadsAll h us (ns.map .int) as
  | _, _, .nil => ⟨_, ReadsAll.nil⟩
  | _, _, .cons n t r => by
    obtain ⟨as, q⟩ := reads_ints (h := h) r
    exact ⟨_, ReadsAll.cons (Reads.int n t) q⟩
theorem depth_ints : ∀ l : List Int, PyData.depthAll (l.map .int) ≤ 1
  | [] => by simp [PyData.depthAll]
  | a :: l => by
    have := depth_ints l
    simp only [List.map_cons, PyData.depthAll, PyData.depth]
    omega
end
end PwS
end

section
set_option maxRecDepth 100000
set_option maxHeartbeats 4000000
namespace PwS
open PySem PySem.Spec PyProof.Rows L2
section
variable {X : Cx}
theorem alike_ints (l : List Int) : PySem.W.AlikeAll (l.map .int) := by
  refine ⟨fun x hx y hy => ?_, fun x hx => ?_⟩
  · obtain ⟨i, _, rfl⟩ := List.mem_map.mp hx
    obtain ⟨j, _, rfl⟩ := List.mem_map.mp hy
    rfl
  · obtain ⟨i, _, rfl⟩ := List.mem_map.mp hx
    exact fun z => nomatch z
theorem call_maxA (hc : X.calm = true) (hu : X.A.units + 64 < cLine) : CallR X (.builtin "max") (rMaxA X.K) := by
  intro pins s σ H vs us Q I r h
  obtain ⟨a, x, l, rfl, hs, q⟩ := h
  rw [Vals.ref1 r]
  have fin : ∀ (its : List Value), Vals ((x :: l).map V.int) its → ∀ (i : Nat) (v : Value) (h' : Heap) (tk : Nat) (bs : List Addr), its.toArray[i]? = some v → Reads h' v (PySem.W.maxD (.int x) (l.map .int)) bs → (∀ b o, s.heap.get? b = some o → h'.get? b = some o) → EP X pins σ Q v { s with heap := h', toks := tk } := fun its rv i v h' tk bs hv hr hk => by
    rw [PySem.W.maxD_ints] at hr
    cases hr with
    | int n t => exact ⟨.int _, H, I.kept hk, ⟨_, rfl⟩, q⟩
  rcases hs with hs | hs
  · obtain ⟨its, rv, hl, hz2⟩ := I.list hs
    have hi := rv.ints
    obtain ⟨as, hr⟩ := reads_ints (h := s.heap) hi
    exact PySem.W.max_list_data (x := .int x) (xs := l.map .int) (as := as) (I.ok.hd hc) hl.isList (by simpa using hr) (alike_ints (x :: l)) (by have := depth_ints (x :: l); rw [List.map_cons] at this; omega) (fin its rv)
  · obtain ⟨its, rv, hl, hz2⟩ := I.tuple hs
    have hi := rv.ints
    obtain ⟨as, hr⟩ := reads_ints (h := s.heap) hi
    exact PySem.W.max_tuple_data (x := .int x) (xs := l.map .int) (as := as) (I.ok.hd hc) (show s.heap.IsTuple a its.toArray from hl) (by simpa using hr) (alike_ints (x :: l)) (by have := depth_ints (x :: l); rw [List.map_cons] at this; omega) (fin its rv)
/-- order of two lists of two ints each -/
def rGtL (K : PySem.W.Frag) : R2 := fun x y H Q => ∃ (a b : Addr) (i j k l : Int), x = .ref a ∧ y = .ref b ∧ SqL K H a [.int i, .int j] ∧ SqL K H b [.int k, .int l] ∧ Q (.bl (decide (k < i ∨ (k = i ∧ l < j)))) H
theorem firstLt2 (i j k l : Int) : PySem.W.dataLt (.list [.int k, .int l]) (.list [.int i, .int j]) = decide (k < i ∨ (k = i ∧ l < j)) := by
  unfold PySem.W.dataLt
  simp only [PySem.W.keyToks, PySem.W.keyToksAll, List.cons_append, List.nil_append, List.append_nil]
  have e1 : ∀ a b : Int, itemLt (Sum.inl a) (Sum.inl b) = decide (a < b) := fun _ _ => rfl
  simp only [PyProof.Rows.lexLt, e1]
  have z1 : decide ((1 : Int) < 1) = false := by decide
  have z0 : decide ((0 : Int) < 0) = false := by decide
  simp only [z1, z0, Bool.not_false, Bool.true_and, Bool.false_or, Bool.and_false, Bool.or_false]
  by_cases c1 : k < i
  · simp [c1]
  · by_cases c2 : i < k
    · have c3 : ¬ k = i := by omega
      simp [c1, c2, c3]
    · have c3 : k = i := by omega
      subst c3
      by_cases c4 : l < j
      · simp [c4]
      · simp [c4]
theorem op_gtL (hu : X.A.units + 64 < cLine) : OpR X (compareOp .Gt) (rGtL X.K) := by
  intro pins s σ H x y v u Q I rx ry h
  obtain ⟨a, b, i, j, k, l, rfl, rfl, ha, hb, q⟩ := h
  obtain ⟨as, r1⟩ := Dp.reads I (.list [.int i, .int j]) _ v (Dp.lst ha (.cons (.int i) (.cons (.int j) .nil))) rx
  obtain ⟨bs, r2⟩ := Dp.reads I (.list [.int k, .int l]) _ u (Dp.lst hb (.cons (.int k) (.cons (.int l) .nil))) ry
  refine PySem.W.gt_data r1 r2 rfl (fun z => nomatch z) (by simp [PyData.depth, PyData.depthAll]; omega) ?_
  rw [firstLt2]
  exact ⟨.bl _, H, I, rfl, q⟩
/-- a tuple times an int that is not below 1 -/
def rRepA (K : PySem.W.Frag) : R2 := fun x y H Q => ∃ l k xs, x = .ref l ∧ y = .int k ∧ H l = some (.tup xs) ∧ xs ≠ [] ∧ 1 ≤ k ∧ k ≤ 1000 ∧ xs.length ≤ 1000 ∧
  ∀ p H', Evl.Ex H H' → SqT K H' p (List.replicate k.toNat xs).flatten → Q (.ref p) H'
theorem tuple_mul1 (l : Addr) (items : Array Value) (n : Nat) (dd : Option Addr) (sl : Array (Option Value)) (u : Tok) :
    Meets (Builtin.«tuple.__mul__» ⟨[.ref l, .int 1 u], []⟩) (fun _ R s => s.heap.get? l = some { cls := .type "tuple", dict := dd, data := .seq items n, slots := sl } ∧ R (.ok (.ret (Value.ref l))) s) :=
  .of_wp fun prog w A R s h => by
    obtain ⟨hp, g, d, tk, os⟩ := s
    obtain ⟨hl, h⟩ := h
    have f1 := AutoSeq1.idx_int
    wp_walk using AutoSeq1.wpAny_loadPart' hl
    repeat (first
      | (refine wpAny_ite_false (by decide) ?_; wp_walk using AutoSeq1.wpAny_loadPart' hl)
      | (refine wpAny_ite_true (by simp) ?_; wp_walk using AutoSeq1.wpAny_loadPart' hl))
    exact ⟨_, rfl, h⟩
theorem op_repA : OpR X (binaryOp .Mult) (rRepA X.K) := by
  intro pins s σ H x y v u Q I rx ry h
  obtain ⟨l, k, xs, rfl, rfl, hT, hne, h1, h2, hz, q⟩ := h
  by_cases hk : 2 ≤ k
  · exact op_repT pins s σ H _ _ v u Q I rx ry ⟨l, k, xs, rfl, rfl, SqT.of hT, hne, hk, h2, hz, fun p hp => q p _ (Evl.Ex.new hp) (Evl.st_of upd_same)⟩
  · have e : k = 1 := by omega
    subst e
    cases rx
    obtain ⟨t, rfl⟩ := ry
    obtain ⟨its, r, ⟨⟨cls, dd, data, sl⟩, ho, hc, n, hd⟩, hs⟩ := I.tuple (SqT.of hT)
    simp only at hc hd
    subst hc hd
    refine wpAny_binaryOp_repeat_ref (T := "tuple") (U := "int") (by decide) ⟨_, ho, rfl⟩ (fun s' => typeIs_int s' 1 t) noFill_tuple_mul F.fills_int_mul F.slot_int_rmul repeat_tuple F.slot_int_index.lookup
      (call_meets F.slot_int_rmul (typeIs_int s 1 t) F.entry_int_rmul (F.args_int_rmul_2 _ _) (int_rmul_tuple 1 t l its.toArray n dd sl)
        ⟨ho, rfl, ⟨_, ho, rfl⟩, call_meets F.slot_tuple_mul ⟨_, ho, rfl⟩ F.entry_tuple_mul (F.args_tuple_mul_2 _ _) (tuple_mul1 l its.toArray n dd sl t) ⟨ho, ?_⟩⟩)
    refine ⟨.ref l, H, I, rfl, q l H (Evl.Ex.refl _) ?_⟩
    have e1 : (List.replicate (1 : Int).toNat xs).flatten = xs := by
      show (List.replicate 1 xs).flatten = xs
      simp
    rw [e1]
    exact SqT.of hT
end
end PwS
end

section
set_option maxRecDepth 100000
set_option maxHeartbeats 4000000
/-! Names for readings; objects made and called by name; properties. -/
namespace Pw
open PySem PySem.Spec L2 Evl StX PwS
open PyProof.Rows hiding St
abbrev rAdd : R2 := rI0 fun i j => .int (i + j)
abbrev rSub : R2 := rI0 fun i j => .int (i - j)
abbrev rMul : R2 := rI CMul fun i j => .int (i * j)
abbrev rDiv : R2 := rI CDiv fun i j => .int (i / j)
abbrev rMod : R2 := rI (fun _ j => 0 < j) fun i j => .int (i % j)
abbrev rLt : R2 := rI0 fun i j => .bl (decide (i < j))
abbrev rLe : R2 := rI0 fun i j => .bl (decide (i ≤ j))
abbrev rGt : R2 := rI0 fun i j => .bl (decide (j < i))
abbrev rGe : R2 := rI0 fun i j => .bl (decide (j ≤ i))
def rPow : R2 := rI CPow fun i j => .int (i ^ j.toNat)
def rBoolL (K : Frag) : List V → Hp → VK → Prop := fun xs H Q => ∃ (a : Addr) (zs : List V), xs = [.ref a] ∧ SqL K H a zs ∧ Q (.bl (!zs.isEmpty)) H
def tJoin (ts : List TE) : TE := fun σ H Q => tJs ts Str.empty σ H fun out H1 => Q (.str out) H1
theorem b_len : bootBuiltins "len" = some (.builtin "len") := by decide +kernel
theorem b_range : bootBuiltins "range" = some (.type "range") := by decide +kernel
theorem b_min : bootBuiltins "min" = some (.builtin "min") := by decide +kernel
theorem b_max : bootBuiltins "max" = some (.builtin "max") := by decide +kernel
theorem b_int : bootBuiltins "int" = some (.type "int") := by decide +kernel
theorem b_isinstance : bootBuiltins "isinstance" = some (.builtin "isinstance") := by decide +kernel
theorem b_tuple : bootBuiltins "tuple" = some (.type "tuple") := by decide +kernel
theorem b_list : bootBuiltins "list" = some (.type "list") := by decide +kernel
theorem b_set : bootBuiltins "set" = some (.type "set") := by decide +kernel
theorem b_sorted : bootBuiltins "sorted" = some (.builtin "sorted") := by decide +kernel
theorem b_bool : bootBuiltins "bool" = some (.type "bool") := by decide +kernel
theorem b_all : bootBuiltins "all" = some (.builtin "all") := by decide +kernel
theorem b_str : bootBuiltins "str" = some (.type "str") := by decide +kernel
section
variable {X : Cx} {k j i : Nat} {x f m : Str} {sp : Sp} {e o value : Expr} {es : List Expr} {t : TA} {ta tv : TE} {p pos pos' apos : Pos} {C g : Addr}
theorem SlPe (he : PE X e ta) (hb : attributeBase e f X.env (eval e X.env) = eval e X.env := by rfl) : PE X (.Attribute e f pos) (SlX.tSl X.K ta f) := SlX.pe_sl he hb
theorem SlPs (ha : PE X o ta) (hv : PE X value tv) (hs : swapsWith value (some (.Attribute o f pos')) pos.line X.env = pure false := by rfl) : PS X (.Assign [.Attribute o f pos'] value pos) (SlX.sSl X.K ta tv f) := SlX.ps_sl ha hv hs
theorem pe_propX (he : PE X e ta) (c : SlX.SCls X.K C) (q : Prp X.K C f g) (F : FnR X.prog X.w X.K X.mg X.base CX0 k g sp) (hr : Room j X.A) (hj : k + 1 ≤ j) (hb : attributeBase e f X.env (eval e X.env) = eval e X.env := by rfl) :
    PE X (.Attribute e f pos) (SlX.tPropSl C sp E0 ta) := SlX.pe_propSl he c q.at_ q.get q.tk q.rc F (hr.mono hj) (fun _ _ _ _ h => h) hb
theorem pe_makeN (M : Mk X.K C g) (F : FnR X.prog X.w X.K X.mg X.base CX0 k g sp) (hr : Room j X.A) (hj : k + 1 ≤ j) (hm : X.mg x = some (.ref C)) (hg : Gl X x) (ha : PA X (e :: es) t) (hdb : (x == ("__debug__" : Str)) = false := by decide)
    (he : starEach (e :: es) X.env = (false, eval e X.env) :: starEach es X.env := by rfl) (hpl : (backTo pos (starEach es X.env)).any (·.1) = false := by rfl) : PE X (.Call (.Name x p) (e :: es) [] pos) (tMakeR C sp E0 t) :=
  pe_makeR M F (hr.mono hj) hg hm pass0 ha hdb he hpl
/-- cls(e, ..), cls a local name -/
def tMakeC (i : Nat) (C : Addr) (sp : Sp) (t : TA) : TE := fun σ H Q => σ[i]? = some (some (.ref C)) ∧ tMakeR C sp E0 t σ H Q
theorem pe_makeV (M : Mk X.K C g) (F : FnR X.prog X.w X.K X.mg X.base CX0 k g sp) (hr : Room j X.A) (hj : k + 1 ≤ j) (hN : X.N[i]? = some x) (hv : Vis X.env.scope x) (ha : PA X (e :: es) t)
    (hd : (x == ("__debug__" : Str)) = false := by decide) (hcd : (x == ("__classdict__" : Str)) = false := by decide)
    (he : starEach (e :: es) X.env = (false, eval e X.env) :: starEach es X.env := by rfl) (hpl : (backTo pos (starEach es X.env)).any (·.1) = false := by rfl) : PE X (.Call (.Name x p) (e :: es) [] pos) (tMakeC i C sp t) := by
  refine ⟨fun pins s σ H Q I h => ?_⟩
  obtain ⟨hs, h⟩ := h
  refine wpAny_Call_Name_kw (thn ((pe_var (pos := p) (i := i) hN hv hd hcd).run pins s σ H (fun v H1 => v = .ref C ∧ H1 = H) I ⟨.ref C, hs, rfl, rfl⟩) fun u s1 ⟨v, H1, I1, r1, ev, eH⟩ => ?_)
  subst ev
  rw [eH] at I1
  cases r1
  refine PySem.W.callWith_K (h₀ := X.base) I.ok.mod.kin M.kp (thn (ha.run pos pins s1 σ H _ I1 h) fun us s2 ⟨vs, H2, I2, r, q⟩ => ⟨I2.kIn, ?_⟩) he hpl
  exact run_makeR M F (hr.mono hj) pass0 I2 r q
/-- an instance called -/
def InsI (H : Hp) (a C : Addr) : Prop := (∃ dx vs, SlX.Slt H a C dx vs) ∨ ∃ dx fs, H a = some (.ins C dx fs)
def tCallI (C : Addr) (sp : Sp) (tf : TE) (t : TA) : TE := fun σ H Q => tf σ H fun y H1 => ∃ a, y = V.ref a ∧ t σ H1 fun vs H2 => InsI H2 a C ∧ sp (V.ref a :: vs) H2 Q E0
theorem pe_callN {fe : Expr} {tf : TE} (hf : PE X fe tf) (c : CallO X.K C g) (F : FnR X.prog X.w X.K X.mg X.base CX0 k g sp) (hr : Room j X.A) (hj : k ≤ j) (ha : PA X (e :: es) t)
    (ht : eval (.Call fe (e :: es) [] pos) X.env = (do callWith pos (← eval fe X.env) [] (backTo pos (starEach (e :: es) X.env)) (backToKw pos (keywordEach [] X.env))) := by rfl)
    (he : starEach (e :: es) X.env = (false, eval e X.env) :: starEach es X.env := by rfl) (hpl : (backTo pos (starEach es X.env)).any (·.1) = false := by rfl) : PE X (.Call fe (e :: es) [] pos) (tCallI C sp tf t) :=
  pe_callO hf c F (hr.mono hj) pass0 ha ht he hpl
theorem callO_of {K : Frag} {C : Addr} (h : Meth K C "__call__" (He.ma K C "__call__") ∧ PySem.W.fnIn K (He.ma K C "__call__") = true) : CallO K C (He.ma K C "__call__") := ⟨h.1.at_, h.1.fn, h.2⟩
theorem pe_methN {pl : Sem Bool} (he : PE X o ta) (c : Cls X.K C) (hm : Meth X.K C m g) (F : FnR X.prog X.w X.K X.mg X.base CX0 k g sp) (hr : Room j X.A) (hj : k ≤ j) (ha : PA X (e :: es) t)
    (hst : starEach (e :: es) X.env = (false, eval e X.env) :: starEach es X.env := by rfl) (hpl : (backTo pos (starEach es X.env)).any (·.1) = false := by rfl)
    (ht : eval (.Call (.Attribute o m apos) (e :: es) [] pos) X.env = (do
      let ov ← eval o X.env
      standAt apos.atName
      let (f, first) ← holding [ov] (getMethod ov m pl)
      callWith pos f first (backTo pos (starEach (e :: es) X.env)) (backToKw pos (keywordEach [] X.env))) := by rfl) : PE X (.Call (.Attribute o m apos) (e :: es) [] pos) (tMethR C m sp E0 ta t) :=
  pe_methR he c hm F (hr.mono hj) pass0 ha hst hpl ht
theorem pe_methN0 {pl : Sem Bool} (he : PE X o ta) (c : Cls X.K C) (hm : Meth X.K C m g) (F : FnR X.prog X.w X.K X.mg X.base CX0 k g sp) (hr : Room j X.A) (hj : k ≤ j)
    (ht : eval (.Call (.Attribute o m apos) [] [] pos) X.env = (do
      let ov ← eval o X.env
      standAt apos.atName
      let (f, first) ← holding [ov] (getMethod ov m pl)
      callWith pos f first (backTo pos (starEach [] X.env)) (backToKw pos (keywordEach [] X.env))) := by rfl) : PE X (.Call (.Attribute o m apos) [] [] pos) (tMethR C m sp E0 ta tNil) := by
  refine ⟨fun pins s σ H Q I h => ?_⟩
  refine PySem.W.methodCall_KW (pl := pl) (thn (he.run pins s σ H _ I h) fun u s1 ⟨x, H1, I1, rx, a, dx, fs, ex, ea, l, q⟩ => ?_) ht
  subst ex
  obtain rfl : u = Value.ref a := rx
  refine getmeth_ok I1 ea c hm l ?_
  exact PySem.W.callWith_K0 (first := [.ref a]) I1.kIn hm.kp (wpAny_call (run_fnR (us := [.ref a]) (vs := [.ref a]) F (hr.mono hj) pass0 I1 (.cons rfl .nil) q))
end
end Pw
end

section
set_option maxRecDepth 100000
set_option maxHeartbeats 4000000
/-! A method whose second statement says super().__init__(e, ..). -/
namespace Pw
open PySem PySem.Spec PyProof.Rows L2 NdefX
abbrev PP : Program := PySem.Challenge.rw_pursewebs_k72_whole_plans_for_ever.prog
theorem pp_file : ((PP.main.file : Str) == ("/claim/cut.py" : Str)) = true := by decide +kernel
theorem pp_top : (PP.main.scope.names.lookup ("super" : Str)).isSome = false := by decide +kernel
/-- the reading: the first statement, the arguments, the callee, the rest -/
def tSuper (g : Addr) (sp : Sp) (t1 : TS) (ta : TA) (t3 : TS) : TS := fun D σ H =>
  t1 { D with nx := fun σ1 H1 => ∃ x C dx fs, σ1[0]? = some (some (V.ref x)) ∧ H1 x = some (.ins C dx fs) ∧ C = g ∧ ta σ1 H1 fun vs H2 => sp (V.ref x :: vs) H2 (fun _ H3 => t3 D σ1 H3) E0 } σ H
section
variable {w : World} {K : Frag} {mg : Str → Option Value} {base : Heap}
theorem fnr_super {name qual : Str} {st st1 st3 : Stmt} {C f cc c : Addr} {e : Expr} {es : List Expr} {p0 p1 apos pos pos2 : Pos} {kV doc pm ct oc : Value} {an od : Option Addr} {osl : Array (Option Value)} {k : Nat} {sp spN : Sp} {gI : Addr}
    {cdC : ClassData} {ccl : Value} {cdd : Option Addr} {vsC : Array Value} {ccs : Array (Option Value)} {tf : Tok} {cl0 : Value} {cld : Option Addr} {csl : Array (Option Value)}
    (lk : K.lookup f = some ⟨oc, od, .func (PySem.W.ksFn name qual (defArgs st) [st1, .Expr (.Call (.Attribute (.Call (.Name "super" p0) [] [] p1) "__init__" apos) (e :: es) [] pos) pos2, st3] (defScope st) .none kV doc pm an (.ref c) ct cc), osl⟩)
    (hcd : PySem.W.codeIn K (.ref c) qual = true) (hcode : K.lookup c = some ⟨ccl, cdd, .fields vsC, ccs⟩) (hvs : vsC[2]? = some (.str ("/claim/cut.py" : Str) tf)) (hcell : K.lookup cc = some ⟨cl0, cld, .cell (some (.ref C)), csl⟩)
    (hD : PySem.W.clsIn K C = some cdC) (hsub : PySem.W.mroIn K C (.ref C) = some true) (hop : PySem.W.nsIn K cStatics "thirdparty.any" = some none) (hm : PySem.W.ks_superIn K C C "__init__" = some (some (.ref gI))) (hty : PySem.W.typeIn K (.ref gI) = some (.type "function")) (hfi : PySem.W.fnIn K gI = true)
    (hsup : mg "super" = none) (S : NScope ["self", "paper", "__class__"] ["self", "paper"] ["__class__"] (defScope st))
    (hargs : ((defArgs st).posonlyargs ++ (defArgs st).args).head?.map (·.arg) = some ("self" : Str))
    (hb : ∀ us : List Value, us.length = 2 → bindArgs (PySem.W.ksFn name qual (defArgs st) [st1, .Expr (.Call (.Attribute (.Call (.Name "super" p0) [] [] p1) "__init__" apos) (e :: es) [] pos) pos2, st3] (defScope st) .none kV doc pm an (.ref c) ct cc) ⟨us, []⟩ = pure ((["self", "paper"] : List Str).zip us))
    (hks : (defScope st).names.lookup ("super" : Str) = some .globalImplicit) (hkc : (defScope st).names.lookup ("__class__" : Str) = some .free) (hka : (defScope st).names.lookup ("self" : Str) = some .local)
    (hco : (defScope st).isCoroutine = false) (hgen : (defScope st).isGenerator = false)
    (len : ∀ vs H Q E, sp vs H Q E → vs.length = 2) (GN : FnR PP w K mg base CX0 k gI spN)
    (hst : ∀ env : Env, starEach (e :: es) env = (false, eval e env) :: starEach es env) (hpl : ∀ env : Env, (backTo pos (starEach es env)).any (·.1) = false)
    (hsw : ∀ env : Env, swapsWith (.Call (.Attribute (.Call (.Name "super" p0) [] [] p1) "__init__" apos) (e :: es) [] pos) none pos2.line env = pure false)
    (hmc : ∀ env : Env, ∃ pl : Sem Bool, eval (.Call (.Attribute (.Call (.Name "super" p0) [] [] p1) "__init__" apos) (e :: es) [] pos) env = (do
      let ov ← attributeBase (.Call (.Name "super" p0) [] [] p1) "__init__" env (eval (.Call (.Name "super" p0) [] [] p1) env)
      standAt apos.atName
      let (f, first) ← holding [ov] (getMethod ov "__init__" pl)
      callWith pos f first (backTo pos (starEach (e :: es) env)) []))
    (body : ∀ (A : Around) (outer : List Env) (s : Shared) (H : Hp) (vs : List V) (Q : VK) (E : XK), Room (k + 1) (A.deeper (envF ⟨name, qual, defArgs st, [], defScope st, [("__class__", cc)], c⟩ f s.heap.objs.size)) → sp vs H Q E →
      ∃ t1 ta t3, PS (ncx CX0 PP w K mg base ["self", "paper", "__class__"] ⟨name, qual, defArgs st, [], defScope st, [("__class__", cc)], c⟩ f A outer s H E) st1 t1 ∧
        PA (ncx CX0 PP w K mg base ["self", "paper", "__class__"] ⟨name, qual, defArgs st, [], defScope st, [("__class__", cc)], c⟩ f A outer s H E) (e :: es) ta ∧
        PSs (ncx CX0 PP w K mg base ["self", "paper", "__class__"] ⟨name, qual, defArgs st, [], defScope st, [("__class__", cc)], c⟩ f A outer s H E) [st3] t3 ∧
        tSuper C spN t1 ta t3 { nx := fun _ H' => Q .non H', rt := Q } (startF ["self", "paper", "__class__"] vs [none]) H) : FnR PP w K mg base CX0 (k + 2) f sp := by
  intro A outer s H us vs Q E hr e0 r hsp
  have KX : K.In s.heap := e0.mod.kin.keeps fun b o e => (e0.bs b o e).1
  have hl := len _ _ _ _ hsp
  have hul : us.length = 2 := by rw [← r.length]; exact hl
  have lim : s.heap.NoLimit := e0.mod.nolimit.keeps fun b o e => (e0.bs b o e).1
  refine ks_codeAny_call_defAt (binds := (["self", "paper"] : List Str).zip us) hr.depth (KX _ _ lk) rfl lim (PySem.W.codeRec_of KX hcd) rfl (BindsTo.of_eq (hb us hul)) S.nocell (fun ⟨n, _⟩ hy => S.par n (List.of_mem_zip hy).1) (fun h₁ hns kp => ?_) hco hgen S.kind
  obtain ⟨t1, ta, t3, P1, PA1, P3, ht⟩ := body A outer s H vs Q E (hr.deeper _) hsp
  have C0 : CellsAt [("__class__", cc)] ["__class__"] [none] s.heap H := by
    have hcc : base.get? cc = some ⟨cl0, cld, .cell (some (.ref C)), csl⟩ := e0.mod.kin _ _ hcell
    refine ⟨rfl, fun y c h => ?_, fun x y c h1 h2 => ?_, fun i y h => ?_⟩
    · have hy : c = cc := by
        rw [List.lookup_cons] at h
        split at h
        · exact (Option.some.inj h).symm
        · cases h
      subst hy
      exact ⟨(e0.bs _ _ hcc).2, _, _, (e0.bs _ _ hcc).1, rfl⟩
    · have z1 : x = "__class__" := by
        rw [List.lookup_cons] at h1
        split at h1
        · rename_i z; exact eq_of_beq z
        · cases h1
      have z2 : y = "__class__" := by
        rw [List.lookup_cons] at h2
        split at h2
        · rename_i z; exact eq_of_beq z
        · cases h2
      rw [z1, z2]
    · have hi : i = 0 := by
        cases i with
        | zero => rfl
        | succ i => simp at h
      subst hi
      have hy : y = "__class__" := by simpa using h.symm
      subst hy
      exact ⟨cc, by rfl, fun v hv => by simp at hv⟩
  have I : Inv (ncx CX0 PP w K mg base ["self", "paper", "__class__"] ⟨name, qual, defArgs st, [], defScope st, [("__class__", cc)], c⟩ f A outer s H E) [] (startF ["self", "paper", "__class__"] vs [none]) H { s with heap := h₁, toks := s.toks + ((["self", "paper"] : List Str).zip us).length } :=
    inv_startN S hr.hd e0 hl r C0 hns kp
  have fin : ∀ {σ' : L2.St} {H' : Hp} {v : V} {u : Value} {s' : Shared}, Inv (ncx CX0 PP w K mg base ["self", "paper", "__class__"] ⟨name, qual, defArgs st, [], defScope st, [("__class__", cc)], c⟩ f A outer s H E) [] σ' H' s' → L2.RelV v u → Q v H' → CE outer PP w H s Q u s' :=
    fun {σ' H' v u s'} J rv q => ⟨v, H', J.os, J.bare, J.base, J.hok, rv, q⟩
  refine ks_wpAt_execs_cons (wpAt_of_wpAny (wpAny_mono (P1.run [] _ _ H _ I ht) (fun fl s1 hs => ?_) fun e s' hs => hs))
  cases fl with
  | ret u =>
    obtain ⟨v, σ', H', J, rv, q⟩ := hs
    exact fin J rv q
  | brk =>
    obtain ⟨_, _, _, q⟩ := hs
    exact False.elim q
  | cont =>
    obtain ⟨_, _, _, q⟩ := hs
    exact False.elim q
  | next =>
  obtain ⟨σ1, H1, I1, x, C', dx, fs, hx0, hx1, eC, hta⟩ := hs
  subst eC
  obtain ⟨m, hn, hlk⟩ := I1.loc
  obtain ⟨ux, rux, lx⟩ := hlk 0 "self" _ rfl hx0 (.inl hka)
  cases rux
  have hself : m "self" = some (.ref x) := by
    rcases lx with ⟨_, z⟩ | ⟨z, _⟩
    · exact z
    · rcases z with z | z
      · have z2 : (defScope st).names.lookup ("self" : Str) = some .cell := z
        rw [hka] at z2; cases z2
      · have z2 : (defScope st).names.lookup ("self" : Str) = some .free := z
        rw [hka] at z2; cases z2
  obtain ⟨ar, har, hara⟩ : ∃ ar, ((defArgs st).posonlyargs ++ (defArgs st).args).head? = some ar ∧ ar.arg = "self" := by
    cases q : ((defArgs st).posonlyargs ++ (defArgs st).args).head? with
    | none => rw [q] at hargs; cases hargs
    | some ar =>
      rw [q] at hargs
      exact ⟨ar, rfl, Option.some.inj hargs⟩
  have X1 : K.In s1.heap := I1.kIn
  obtain ⟨mA, O, rO, _, _, _⟩ := ins_get I1.hok hx1
  obtain ⟨oD, hD1, hD2⟩ : ∃ oD, s1.heap.get? C' = some oD ∧ oD.data = .cls cdC := by
    unfold PySem.W.clsIn at hD
    split at hD
    · rename_i c d cd' sl ho
      cases hD
      exact ⟨_, X1 _ _ ho, rfl⟩
    · cases hD
  have hxC : x ≠ C' := by
    intro z
    have h1 := O.obj
    rw [z, hD1] at h1
    rw [Option.some.inj h1] at hD2
    cases hD2
  obtain ⟨pl, hpl2⟩ := hmc (PySem.callEnv (PySem.W.ksFn name qual (defArgs st) [st1, .Expr (.Call (.Attribute (.Call (.Name "super" p0) [] [] p1) "__init__" apos) (e :: es) [] pos) pos2, st3] (defScope st) .none kV doc pm an (.ref c) ct cc) s.heap.objs.size f)
  refine ks_wpAt_execs_cons (ks_wpAt_Expr_any (ks_wpAt_MethodCall (pl := pl) (he := hpl2) (ks_wpAt_super_base hks hkc (by decide) rfl (X1 _ _ lk) rfl har rfl (X1 _ _ hcode) rfl hvs pp_file pp_top ?_)) I1.quiet (hsw _))
  obtain ⟨hh, g, d, t, os⟩ := s1
  obtain ⟨mb, hmb1, hmb2⟩ := I1.mod.blt
  refine PySem.W.ks_loadName_global S.kind hks (Calls.loadGlobal_builtin (I1.mod.glob.keeps I1.bk) hsup (hmb1.keeps I1.bk) ((hmb2 _ (by decide +kernel)).trans (by decide +kernel)) ⟨rfl, ?_⟩)
  refine wpAny_loadName_free S.kind hkc rfl ⟨_, X1 _ _ hcell, rfl⟩ ?_
  rw [hara]
  refine wpAny_loadName_local S.kind hka hn hself ?_
  refine ks_wpAny_isType_cls hD1 hD2 ⟨rfl, ?_⟩
  refine ks_wpAny_call_super hD1 hD2 O.obj rfl (fun c e => nomatch e) (PySem.W.looks_mroIn X1 hsub) (fun h' e k => ?_)
  have I2 : Inv (ncx CX0 PP w K mg base ["self", "paper", "__class__"] ⟨name, qual, defArgs st, [], defScope st, [("__class__", cc)], c⟩ f A outer s H E) [] σ1 H1 ⟨h', g, d, t, os⟩ := I1.kept k
  obtain ⟨of, hof, hofc⟩ : ∃ of, h'.get? gI = some of ∧ of.cls = .type "function" := by
    have ht' : (K.lookup gI).map (·.cls) = some (.type "function") := hty
    cases z : K.lookup gI with
    | none => rw [z] at ht'; cases ht'
    | some of => rw [z] at ht'; exact ⟨of, I2.kIn _ _ z, Option.some.inj ht'⟩
  have hmm : PySem.W.alongIn K "__init__" ((cdC.mro.dropWhile (· != .ref C')).drop 1) = some (some (.ref gI)) := by
    unfold PySem.W.ks_superIn at hm
    rw [hD] at hm
    exact hm
  refine ks_wpAny_getMethod_super e (PySem.W.looks_opaque I2.kIn hop) (l₀ := cdC.mro) ((PySem.W.looks_clsIn I2.kIn hD).andThen .now) rfl I2.kIn hmm hof hofc hxC (by decide) ?_
  have I3 := ClX.met_new (g := gI) (C := x) I2
  refine ClX.callwith_cm I3 (ClX.base_none I2 (Nat.le_refl _)) hfi (thn (PA1.run pos _ _ σ1 H1 _ I3 hta) fun us s3 ⟨vs, H2, I4, rv, q2⟩ => ⟨⟨ClX.pin_at I4, I4.kIn⟩, ?_⟩) (hst _) (hpl _)
  refine wpAny_mono (ClX.run_cm GN ((hr.deeper _).mono (by omega)) pass0 I4 rv q2) (fun u s4 ⟨v, H3, I5, _, q3⟩ => ?_) fun _ _ z => z
  refine wpAt_of_wpAny (wpAny_mono (P3.run [] _ _ _ _ I5 q3) (fun fl s' hs => ?_) fun e s' hs => hs)
  cases fl with
  | ret u =>
    obtain ⟨v, σ', H', J, rv, q⟩ := hs
    exact fin J rv q
  | next =>
    obtain ⟨σ', H', J, q⟩ := hs
    exact fin (v := V.non) (u := Value.none) J rfl q
  | brk =>
    obtain ⟨_, _, _, q⟩ := hs
    exact False.elim q
  | cont =>
    obtain ⟨_, _, _, q⟩ := hs
    exact False.elim q
end
end Pw
end

section
set_option maxRecDepth 100000
set_option maxHeartbeats 4000000
/-! The small looks of the package. -/
namespace Pw
open PySem PySem.Spec L2 Evl StX PwS SlX
open PyProof.Rows hiding St
/-! ### isinstance, by values -/
theorem tyx_l {K : Frag} {H : Hp} {a : Addr} {xs : List V} (h : SqL K H a xs) : TyX K H (.ref a) (.type "list") := by
  rcases h with (h | ⟨o, h⟩) | ⟨o, _, _, h, c, _⟩
  · exact .base (.lst h)
  · exact .base (.frz h)
  · exact .kList h c
theorem tyx_t {K : Frag} {H : Hp} {a : Addr} {xs : List V} (h : SqT K H a xs) : TyX K H (.ref a) (.type "tuple") := by
  rcases h with (h | ⟨o, h⟩) | ⟨o, _, _, h, c, _⟩
  · exact .base (.tup h)
  · exact .fTuple h
  · exact .kTuple h c
section
variable {K : Frag} {σ : L2.St} {H : Hp} {ta tb : TE} {x c : V} {t u : Value} {b : Bool} {p : Addr} {xs : List V}
theorem ev_isi (ha : Ev ta σ H x) (hc : ClsV c u) (ty : ∀ H1, Ex H H1 → TyX K H1 x t) (k : PySem.W.kitOne K t u = some b) : Ev (tCB (rIsi K) (tCons ta (tCons (tC c) tNil))) σ H (.bl b) := fun H1 e Q q =>
  ha H1 e _ fun H2 e2 => ⟨x, c, t, u, b, rfl, hc, ty H2 (e.trans e2), k, q H2 e2⟩
theorem ev_isiInt {i : Int} (ha : Ev ta σ H (.int i)) : Ev (tCB (rIsi K) (tCons ta (tCons (tC (.ty "int")) tNil))) σ H (.bl true) := ev_isi ha (.ty "int") (fun _ _ => .base (.int i)) (kit_ty (by decide +kernel))
theorem ev_isiBool {i : Int} (ha : Ev ta σ H (.int i)) : Ev (tCB (rIsi K) (tCons ta (tCons (tC (.ty "bool")) tNil))) σ H (.bl false) := ev_isi ha (.ty "bool") (fun _ _ => .base (.int i)) (kit_ty (by decide +kernel))
theorem ev_isiStr {z : Str} (ha : Ev ta σ H (.str z)) : Ev (tCB (rIsi K) (tCons ta (tCons (tC (.ty "str")) tNil))) σ H (.bl true) := ev_isi ha (.ty "str") (fun _ _ => .base (.str z)) (kit_ty (by decide +kernel))
theorem ev_isiTup (ha : Ev ta σ H (.ref p)) (hs : SqT K H p xs) : Ev (tCB (rIsi K) (tCons ta (tCons (tC (.ty "tuple")) tNil))) σ H (.bl true) := ev_isi ha (.ty "tuple") (fun _ e => tyx_t (ex_t e hs)) (kit_ty (by decide +kernel))
/-- isinstance(x, (list, tuple)) -/
theorem ev_isiLT (ha : Ev ta σ H (.ref p)) (hs : SqA K H p xs) : Ev (tCB (rIsiT K) (tCons ta (tCons (tTup (tCons (tC (.ty "list")) (tCons (tC (.ty "tuple")) tNil))) tNil))) σ H (.bl true) := fun H1 e Q q =>
  ha H1 e _ fun H2 e2 => ⟨by show 2 ≤ sizeLine; decide, fun tp htp => by
    have e3 : Ex H2 (upd H2 tp (.tup [.ty "list", .ty "tuple"])) := Ex.new htp
    rcases hs with hs | hs
    · exact ⟨.ref p, tp, _, .type "list", [.type "list", .type "tuple"], true, rfl, upd_same, .cons (.ty _) (.cons (.ty _) .nil), tyx_l (ex_l ((e.trans e2).trans e3) hs), kitAny_cons (b := true) (kit_ty (by decide +kernel)) (fun z => nomatch z) fun _ => rfl, q _ (e2.trans e3)⟩
    · exact ⟨.ref p, tp, _, .type "tuple", [.type "list", .type "tuple"], true, rfl, upd_same, .cons (.ty _) (.cons (.ty _) .nil), tyx_t (ex_t ((e.trans e2).trans e3) hs), kitAny_cons (b := false) (kit_ty (by decide +kernel)) (fun _ => kitAny_cons (b := true) (kit_ty (by decide +kernel)) (fun z => nomatch z) fun _ => rfl) (fun z => nomatch z), q _ (e2.trans e3)⟩⟩
theorem ev_isN (ha : Ev ta σ H x) : Ev (tOp rIsN ta (tC .non)) σ H (.bl (decide (x = .non))) := ev_op ha ev_c fun H1 _ _ q => ⟨rfl, q H1 (Ex.refl _)⟩
theorem ev_notN (ha : Ev ta σ H x) : Ev (tOp rNotN ta (tC .non)) σ H (.bl (!decide (x = .non))) := ev_op ha ev_c fun H1 _ _ q => ⟨rfl, q H1 (Ex.refl _)⟩
theorem ev_eqI {i j : Int} (ha : Ev ta σ H (.int i)) (hb : Ev tb σ H (.int j)) : Ev (tOp rEq ta tb) σ H (.bl (decide (i = j))) := by
  have := ev_op ha hb (rv_eq (x := .int i) (y := .int j) rfl)
  have e : decide (V.int i = V.int j) = decide (i = j) := by rw [Bool.eq_iff_iff]; simp
  rw [e] at this
  exact this
theorem ev_neI {i j : Int} (ha : Ev ta σ H (.int i)) (hb : Ev tb σ H (.int j)) : Ev (tOp rNe ta tb) σ H (.bl (!decide (i = j))) := by
  have := ev_op ha hb (rv_ne (x := .int i) (y := .int j) rfl)
  have e : decide (V.int i = V.int j) = decide (i = j) := by rw [Bool.eq_iff_iff]; simp
  rw [e] at this
  exact this
theorem ev_eqS {i j : Str} (ha : Ev ta σ H (.str i)) (hb : Ev tb σ H (.str j)) : Ev (tOp rEq ta tb) σ H (.bl (decide (V.str i = V.str j))) := ev_op ha hb (rv_eq rfl)
theorem ev_I {g : Int → Int → V} {i j : Int} (ha : Ev ta σ H (.int i)) (hb : Ev tb σ H (.int j)) : Ev (tOp (rI0 g) ta tb) σ H (g i j) := ev_op ha hb rv_I0
theorem ev_Ic {C : Int → Int → Prop} {g : Int → Int → V} {i j : Int} (ha : Ev ta σ H (.int i)) (hb : Ev tb σ H (.int j)) (hc : C i j) : Ev (tOp (rI C g) ta tb) σ H (g i j) := ev_op ha hb (rv_I hc)
end
/-- a new tuple that P tells -/
def RetT (K : Frag) (P : List Int → Prop) (H : Hp) (Q : VK) : Prop := ∀ p H' l, Ex H H' → SqT K H' p (intV l) → P l → Q (.ref p) H'
abbrev E1 (Q : VK) : Ends := { nx := fun _ H' => Q .non H', rt := Q }

def sp_is_integer (K : Frag) : Sp := fun vs H Q _ => ∃ i, vs = [.int i] ∧ RetV (.bl true) H Q
/-! is_integer -/
abbrev N_is_integer : List Str := ["thing"]
abbrev s_is_integer : Stmt := top 9
theorem sc_is_integer : FnScope N_is_integer ["thing"] (defScope s_is_integer) := ⟨rfl, rfl, rfl, by decide +kernel, rfl, by decide +kernel, by decide +kernel⟩
def t_is_integer (K : Frag) : TS := (tRet (tAndV (tCB (rIsi K) (tCons (tVar 0) (tCons (tC (.ty "int")) tNil))) (tNotV (tCB (rIsi K) (tCons (tVar 0) (tCons (tC (.ty "bool")) tNil))))))
section
variable {w : World} {K : Frag} {mg : Str → Option Value} {vs : List V} {H : Hp} {Q : VK} {E : XK}
theorem len_is_integer (h : sp_is_integer K vs H Q E) : vs.length = 1 := by obtain ⟨i, rfl, _⟩ := h; rfl
theorem pure_is_integer (T : Txt w K mg) (h : sp_is_integer K vs H Q E) : t_is_integer K (E1 Q) (start N_is_integer vs) H := by
  obtain ⟨i, rfl, k⟩ := h
  exact s_ret (ev_andV (ev_isiInt (ev_var rfl)) fun _ => ev_notV (ev_isiBool (ev_var rfl))) fun H1 e => k H1 e
end
theorem d_is_integer {P : Program} {w : World} {K : Frag} {mg : Str → Option Value} {base : Heap} (T : Txt w K mg) {f : Addr} {cdv : Value} {A : Around} {outer : List Env} {s : Shared} {H : Hp} {E : XK} (hr : Room 0 (A.deeper (envOfC "is_integer" (defScope s_is_integer) s.heap.objs.size f cdv))) :
    PSs (cxOf CX0 P w K mg base N_is_integer "is_integer" (defScope s_is_integer) f cdv A outer s H E).nox (defBody s_is_integer) (t_is_integer K) := by
  exact (pss_one (ps_ret (pe_and (pe_callB call_isi (by rfl) (T.free (memOf 5 rfl)) b_isinstance (pa_cons (pv 0) (pa_cons (pe_bltn (v := .ty "int") (by rfl) (T.free (memOf 4 rfl)) b_int rfl) pa_nil))) (pe_one (pe_not (pe_callB call_isi (by rfl) (T.free (memOf 5 rfl)) b_isinstance (pa_cons (pv 0) (pa_cons (pe_bltn (v := .ty "bool") (by rfl) (T.free (memOf 10 rfl)) b_bool rfl) pa_nil))))))))
theorem ok_is_integer {P : Program} {w : World} {K : Frag} {mg : Str → Option Value} {base : Heap} (T : Txt w K mg) : GF P w K mg base "is_integer" 1 (sp_is_integer K) := by
  have F := T.def_ (d := xf_is_integer) (memOf 0 rfl) rfl
  refine ⟨fnr_mk (k := 0) F sc_is_integer (fun _ _ _ _ _ _ us hl => match us, hl with | [_], _ => rfl) (fun vs H Q E h => len_is_integer h) (fun cdv A outer s H vs Q E hr h => ⟨t_is_integer K, d_is_integer T hr, pure_is_integer T h⟩), ?_, T.glo (memOf 0 rfl)⟩
  obtain ⟨fd, F⟩ := F
  exact F.kp
theorem spv_is_integer {K : Frag} {H : Hp} {i : Int} : SpV (sp_is_integer K) [.int i] H (.bl true) := fun H1 _ Q q E => ⟨i, rfl, fun H2 e2 => q H2 e2⟩

def sp_need_integer (K : Frag) : Sp := fun vs H Q _ => ∃ i x, vs = [.int i, x] ∧ RetV .non H Q
/-! need_integer -/
abbrev N_need_integer : List Str := ["thing", "what"]
abbrev s_need_integer : Stmt := top 10
theorem sc_need_integer : FnScope N_need_integer ["thing", "what"] (defScope s_need_integer) := ⟨rfl, rfl, rfl, by decide +kernel, rfl, by decide +kernel, by decide +kernel⟩
def t_need_integer (K : Frag) : TS := (tIfS (tNot (tB (tFn (sp_is_integer K) (tCons (tVar 0) tNil)))) tNever tNext)
section
variable {w : World} {K : Frag} {mg : Str → Option Value} {vs : List V} {H : Hp} {Q : VK} {E : XK}
theorem len_need_integer (h : sp_need_integer K vs H Q E) : vs.length = 2 := by obtain ⟨i, x, rfl, _⟩ := h; rfl
theorem pure_need_integer (T : Txt w K mg) (h : sp_need_integer K vs H Q E) : t_need_integer K (E1 Q) (start N_need_integer vs) H := by
  obtain ⟨i, x, rfl, k⟩ := h
  exact s_not (et_not (et_B (ev_fn (ea_cons (ev_var rfl) ea_nil) spv_is_integer))) fun H1 e => k H1 e
end
theorem d_need_integer {P : Program} {w : World} {K : Frag} {mg : Str → Option Value} {base : Heap} (T : Txt w K mg) {f : Addr} {cdv : Value} {A : Around} {outer : List Env} {s : Shared} {H : Hp} {E : XK} (hr : Room 1 (A.deeper (envOfC "need_integer" (defScope s_need_integer) s.heap.objs.size f cdv))) :
    PSs (cxOf CX0 P w K mg base N_need_integer "need_integer" (defScope s_need_integer) f cdv A outer s H E).nox (defBody s_need_integer) (t_need_integer K) := by
  exact (pss_one (ps_if (pt_not (pt_val (pe_f (ok_is_integer T) hr (by decide) (by rfl) (pa_cons (pv 0) pa_nil)))) (pss_one ps_never) pss_nil))
theorem ok_need_integer {P : Program} {w : World} {K : Frag} {mg : Str → Option Value} {base : Heap} (T : Txt w K mg) : GF P w K mg base "need_integer" 2 (sp_need_integer K) := by
  have F := T.def_ (d := xf_need_integer) (memOf 1 rfl) rfl
  refine ⟨fnr_mk (k := 1) F sc_need_integer (fun _ _ _ _ _ _ us hl => match us, hl with | [_, _], _ => rfl) (fun vs H Q E h => len_need_integer h) (fun cdv A outer s H vs Q E hr h => ⟨t_need_integer K, d_need_integer T hr, pure_need_integer T h⟩), ?_, T.glo (memOf 1 rfl)⟩
  obtain ⟨fd, F⟩ := F
  exact F.kp
theorem spv_need_integer {K : Frag} {H : Hp} {i : Int} {x : V} : SpV (sp_need_integer K) [.int i, x] H .non := fun H1 _ Q q E => ⟨i, x, rfl, fun H2 e2 => q H2 e2⟩

def sp_need_list (K : Frag) : Sp := fun vs H Q _ => ∃ a xs x, vs = [.ref a, x] ∧ SqA K H a xs ∧ RetV .non H Q
/-! need_list -/
abbrev N_need_list : List Str := ["thing", "what"]
abbrev s_need_list : Stmt := top 11
theorem sc_need_list : FnScope N_need_list ["thing", "what"] (defScope s_need_list) := ⟨rfl, rfl, rfl, by decide +kernel, rfl, by decide +kernel, by decide +kernel⟩
def t_need_list (K : Frag) : TS := (tIfS (tNot (tB (tCB (rIsiT K) (tCons (tVar 0) (tCons (tTup (tCons (tC (.ty "list")) (tCons (tC (.ty "tuple")) tNil))) tNil))))) tNever tNext)
section
variable {w : World} {K : Frag} {mg : Str → Option Value} {vs : List V} {H : Hp} {Q : VK} {E : XK}
theorem len_need_list (h : sp_need_list K vs H Q E) : vs.length = 2 := by obtain ⟨a, xs, x, rfl, _⟩ := h; rfl
theorem pure_need_list (T : Txt w K mg) (h : sp_need_list K vs H Q E) : t_need_list K (E1 Q) (start N_need_list vs) H := by
  obtain ⟨a, xs, x, rfl, hs, k⟩ := h
  exact s_not (et_not (et_B (ev_isiLT (ev_var rfl) hs))) fun H1 e => k H1 e
end
theorem d_need_list {P : Program} {w : World} {K : Frag} {mg : Str → Option Value} {base : Heap} (T : Txt w K mg) {f : Addr} {cdv : Value} {A : Around} {outer : List Env} {s : Shared} {H : Hp} {E : XK} (hr : Room 0 (A.deeper (envOfC "need_list" (defScope s_need_list) s.heap.objs.size f cdv))) :
    PSs (cxOf CX0 P w K mg base N_need_list "need_list" (defScope s_need_list) f cdv A outer s H E).nox (defBody s_need_list) (t_need_list K) := by
  exact (pss_one (ps_if (pt_not (pt_val (pe_callB call_isiT (by rfl) (T.free (memOf 5 rfl)) b_isinstance (pa_cons (pv 0) (pa_cons (pe_tup (pa_cons (pe_bltn (v := .ty "list") (by rfl) (T.free (memOf 7 rfl)) b_list rfl) (pa_cons (pe_bltn (v := .ty "tuple") (by rfl) (T.free (memOf 6 rfl)) b_tuple rfl) pa_nil))) pa_nil))))) (pss_one ps_never) pss_nil))
theorem ok_need_list {P : Program} {w : World} {K : Frag} {mg : Str → Option Value} {base : Heap} (T : Txt w K mg) : GF P w K mg base "need_list" 1 (sp_need_list K) := by
  have F := T.def_ (d := xf_need_list) (memOf 2 rfl) rfl
  refine ⟨fnr_mk (k := 0) F sc_need_list (fun _ _ _ _ _ _ us hl => match us, hl with | [_, _], _ => rfl) (fun vs H Q E h => len_need_list h) (fun cdv A outer s H vs Q E hr h => ⟨t_need_list K, d_need_list T hr, pure_need_list T h⟩), ?_, T.glo (memOf 2 rfl)⟩
  obtain ⟨fd, F⟩ := F
  exact F.kp
theorem spv_need_list {K : Frag} {H : Hp} {a : Addr} {xs : List V} {x : V} (hs : SqA K H a xs) : SpV (sp_need_list K) [.ref a, x] H .non := fun H1 e Q q E => ⟨a, xs, x, rfl, hs.mono e, fun H2 e2 => q H2 e2⟩

def sp_need_from (K : Frag) : Sp := fun vs H Q _ => ∃ i j x, vs = [.int i, .int j, x] ∧ j ≤ i ∧ RetV .non H Q
/-! need_from -/
abbrev N_need_from : List Str := ["number", "least", "what"]
abbrev s_need_from : Stmt := top 12
theorem sc_need_from : FnScope N_need_from ["number", "least", "what"] (defScope s_need_from) := ⟨rfl, rfl, rfl, by decide +kernel, rfl, by decide +kernel, by decide +kernel⟩
def t_need_from (K : Frag) : TS := (tIfS (tTest (tOp rLt (tVar 0) (tVar 1))) tNever tNext)
section
variable {w : World} {K : Frag} {mg : Str → Option Value} {vs : List V} {H : Hp} {Q : VK} {E : XK}
theorem len_need_from (h : sp_need_from K vs H Q E) : vs.length = 3 := by obtain ⟨i, j, x, rfl, _⟩ := h; rfl
theorem pure_need_from (T : Txt w K mg) (h : sp_need_from K vs H Q E) : t_need_from K (E1 Q) (start N_need_from vs) H := by
  obtain ⟨i, j, x, rfl, hij, k⟩ := h
  exact s_not (et_is (et_test (ev_I (ev_var rfl) (ev_var rfl))) (decide_eq_false (by omega))) fun H1 e => k H1 e
end
theorem d_need_from {P : Program} {w : World} {K : Frag} {mg : Str → Option Value} {base : Heap} (T : Txt w K mg) {f : Addr} {cdv : Value} {A : Around} {outer : List Env} {s : Shared} {H : Hp} {E : XK} (hr : Room 0 (A.deeper (envOfC "need_from" (defScope s_need_from) s.heap.objs.size f cdv))) :
    PSs (cxOf CX0 P w K mg base N_need_from "need_from" (defScope s_need_from) f cdv A outer s H E).nox (defBody s_need_from) (t_need_from K) := by
  exact (pss_one (ps_if (pt_cmpR op_lt (pv 0) (pv 1) (nomark _)) (pss_one ps_never) pss_nil))
theorem ok_need_from {P : Program} {w : World} {K : Frag} {mg : Str → Option Value} {base : Heap} (T : Txt w K mg) : GF P w K mg base "need_from" 1 (sp_need_from K) := by
  have F := T.def_ (d := xf_need_from) (memOf 3 rfl) rfl
  refine ⟨fnr_mk (k := 0) F sc_need_from (fun _ _ _ _ _ _ us hl => match us, hl with | [_, _, _], _ => rfl) (fun vs H Q E h => len_need_from h) (fun cdv A outer s H vs Q E hr h => ⟨t_need_from K, d_need_from T hr, pure_need_from T h⟩), ?_, T.glo (memOf 3 rfl)⟩
  obtain ⟨fd, F⟩ := F
  exact F.kp
theorem spv_need_from {K : Frag} {H : Hp} {i j : Int} {x : V} (h : j ≤ i) : SpV (sp_need_from K) [.int i, .int j, x] H .non := fun H1 e Q q E => ⟨i, j, x, rfl, h, fun H2 e2 => q H2 e2⟩

def sp_need_between (K : Frag) : Sp := fun vs H Q _ => ∃ i j m x, vs = [.int i, .int j, .int m, x] ∧ j ≤ i ∧ i ≤ m ∧ RetV .non H Q
/-! need_between -/
abbrev N_need_between : List Str := ["number", "least", "most", "what"]
abbrev s_need_between : Stmt := top 13
theorem sc_need_between : FnScope N_need_between ["number", "least", "most", "what"] (defScope s_need_between) := ⟨rfl, rfl, rfl, by decide +kernel, rfl, by decide +kernel, by decide +kernel⟩
def t_need_between (K : Frag) : TS := (tIfS (tOr (tTest (tOp rLt (tVar 0) (tVar 1))) (tTest (tOp rGt (tVar 0) (tVar 2)))) tNever tNext)
section
variable {w : World} {K : Frag} {mg : Str → Option Value} {vs : List V} {H : Hp} {Q : VK} {E : XK}
theorem len_need_between (h : sp_need_between K vs H Q E) : vs.length = 4 := by obtain ⟨i, j, m, x, rfl, _⟩ := h; rfl
theorem pure_need_between (T : Txt w K mg) (h : sp_need_between K vs H Q E) : t_need_between K (E1 Q) (start N_need_between vs) H := by
  obtain ⟨i, j, m, x, rfl, hij, him, k⟩ := h
  exact s_not (et_is (et_or (et_test (ev_I (ev_var rfl) (ev_var rfl))) fun _ => et_test (ev_I (ev_var rfl) (ev_var rfl))) (by
    show (decide (i < j) || decide (m < i)) = false
    rw [decide_eq_false (by omega), decide_eq_false (by omega)] <;> rfl)) fun H1 e => k H1 e
end
theorem d_need_between {P : Program} {w : World} {K : Frag} {mg : Str → Option Value} {base : Heap} (T : Txt w K mg) {f : Addr} {cdv : Value} {A : Around} {outer : List Env} {s : Shared} {H : Hp} {E : XK} (hr : Room 0 (A.deeper (envOfC "need_between" (defScope s_need_between) s.heap.objs.size f cdv))) :
    PSs (cxOf CX0 P w K mg base N_need_between "need_between" (defScope s_need_between) f cdv A outer s H E).nox (defBody s_need_between) (t_need_between K) := by
  exact (pss_one (ps_if (PW.pt (pw_or (pt_cmpR op_lt (pv 0) (pv 1) (nomark _)) (pw_or1 (pt_cmpR op_gt (pv 0) (pv 2) (nomark _))))) (pss_one ps_never) pss_nil))
theorem ok_need_between {P : Program} {w : World} {K : Frag} {mg : Str → Option Value} {base : Heap} (T : Txt w K mg) : GF P w K mg base "need_between" 1 (sp_need_between K) := by
  have F := T.def_ (d := xf_need_between) (memOf 4 rfl) rfl
  refine ⟨fnr_mk (k := 0) F sc_need_between (fun _ _ _ _ _ _ us hl => match us, hl with | [_, _, _, _], _ => rfl) (fun vs H Q E h => len_need_between h) (fun cdv A outer s H vs Q E hr h => ⟨t_need_between K, d_need_between T hr, pure_need_between T h⟩), ?_, T.glo (memOf 4 rfl)⟩
  obtain ⟨fd, F⟩ := F
  exact F.kp
theorem spv_need_between {K : Frag} {H : Hp} {i j m : Int} {x : V} (h : j ≤ i) (h2 : i ≤ m) : SpV (sp_need_between K) [.int i, .int j, .int m, x] H .non := fun H1 e Q q E => ⟨i, j, m, x, rfl, h, h2, fun H2 e2 => q H2 e2⟩

def sp_need_up_to (K : Frag) : Sp := fun vs H Q _ => ∃ i j x, vs = [.int i, .int j, x] ∧ i ≤ j ∧ RetV .non H Q
/-! need_up_to -/
abbrev N_need_up_to : List Str := ["number", "most", "what"]
abbrev s_need_up_to : Stmt := top 14
theorem sc_need_up_to : FnScope N_need_up_to ["number", "most", "what"] (defScope s_need_up_to) := ⟨rfl, rfl, rfl, by decide +kernel, rfl, by decide +kernel, by decide +kernel⟩
def t_need_up_to (K : Frag) : TS := (tIfS (tTest (tOp rGt (tVar 0) (tVar 1))) tNever tNext)
section
variable {w : World} {K : Frag} {mg : Str → Option Value} {vs : List V} {H : Hp} {Q : VK} {E : XK}
theorem len_need_up_to (h : sp_need_up_to K vs H Q E) : vs.length = 3 := by obtain ⟨i, j, x, rfl, _⟩ := h; rfl
theorem pure_need_up_to (T : Txt w K mg) (h : sp_need_up_to K vs H Q E) : t_need_up_to K (E1 Q) (start N_need_up_to vs) H := by
  obtain ⟨i, j, x, rfl, hij, k⟩ := h
  exact s_not (et_is (et_test (ev_I (ev_var rfl) (ev_var rfl))) (decide_eq_false (by omega))) fun H1 e => k H1 e
end
theorem d_need_up_to {P : Program} {w : World} {K : Frag} {mg : Str → Option Value} {base : Heap} (T : Txt w K mg) {f : Addr} {cdv : Value} {A : Around} {outer : List Env} {s : Shared} {H : Hp} {E : XK} (hr : Room 0 (A.deeper (envOfC "need_up_to" (defScope s_need_up_to) s.heap.objs.size f cdv))) :
    PSs (cxOf CX0 P w K mg base N_need_up_to "need_up_to" (defScope s_need_up_to) f cdv A outer s H E).nox (defBody s_need_up_to) (t_need_up_to K) := by
  exact (pss_one (ps_if (pt_cmpR op_gt (pv 0) (pv 1) (nomark _)) (pss_one ps_never) pss_nil))
theorem ok_need_up_to {P : Program} {w : World} {K : Frag} {mg : Str → Option Value} {base : Heap} (T : Txt w K mg) : GF P w K mg base "need_up_to" 1 (sp_need_up_to K) := by
  have F := T.def_ (d := xf_need_up_to) (memOf 5 rfl) rfl
  refine ⟨fnr_mk (k := 0) F sc_need_up_to (fun _ _ _ _ _ _ us hl => match us, hl with | [_, _, _], _ => rfl) (fun vs H Q E h => len_need_up_to h) (fun cdv A outer s H vs Q E hr h => ⟨t_need_up_to K, d_need_up_to T hr, pure_need_up_to T h⟩), ?_, T.glo (memOf 5 rfl)⟩
  obtain ⟨fd, F⟩ := F
  exact F.kp
theorem spv_need_up_to {K : Frag} {H : Hp} {i j : Int} {x : V} (h : i ≤ j) : SpV (sp_need_up_to K) [.int i, .int j, x] H .non := fun H1 e Q q E => ⟨i, j, x, rfl, h, fun H2 e2 => q H2 e2⟩
end Pw
end

section
set_option maxRecDepth 100000
set_option maxHeartbeats 4000000
/-! Rows and sets of stands as arguments; dues; halves. -/
namespace Pw
open PySem PySem.Spec L2 Evl StX PwS SlX
open PyProof.Rows hiding St
section
variable {K : Frag} {σ : L2.St} {H : Hp} {ta tb : TE} {x c : V} {p : Addr} {xs : List V}
theorem intV_at {l : List Int} {i : Nat} {x : V} (h : (intV l)[i]? = some x) : ∃ n, l[i]? = some n ∧ x = .int n := by
  unfold intV at h
  rw [List.getElem?_map] at h
  cases e : l[i]? with
  | none => rw [e] at h; cases h
  | some n =>
    rw [e] at h
    exact ⟨n, rfl, (Option.some.inj h).symm⟩
theorem ev_join {u z : Str} (hu : u.length ≤ 1000) (hz : z.length ≤ 1000) (ha : Ev ta σ H (.str z)) : Ev (tJoin [tC (.str u), tFmt ta]) σ H (.str (Str.empty ++ u ++ z)) := fun H1 e Q q => by
  have l0 : (Str.empty ++ u).length = u.length := by
    show (#[] ++ u.cps).size = u.cps.size
    simp
  have l1 : (Str.empty ++ u ++ z).length = u.length + z.length := by
    show ((Str.empty ++ u).cps ++ z.cps).size = _
    rw [Array.size_append]
    show (Str.empty ++ u).length + z.length = _
    rw [l0]
  refine ⟨u, rfl, by rw [l0, sizeLine_eq]; omega, ?_⟩
  refine ha H1 e _ fun H2 e2 => .inl ⟨z, rfl, by rw [sizeLine_eq]; omega, z, rfl, by rw [l1, sizeLine_eq]; omega, q H2 e2⟩
end
/-! need_integers -/
def sp_need_integers (K : Frag) : Sp := fun vs H Q _ => ∃ a l z, vs = [.ref a, .str z] ∧ SqA K H a (intV l) ∧ z.length ≤ 1000 ∧ RetV .non H Q
/-! need_integers -/
abbrev N_need_integers : List Str := ["thing", "what", "one_part"]
abbrev s_need_integers : Stmt := top 15
theorem sc_need_integers : FnScope N_need_integers ["thing", "what"] (defScope s_need_integers) := ⟨rfl, rfl, rfl, by decide +kernel, rfl, by decide +kernel, by decide +kernel⟩
def t_need_integers (K : Frag) : TS := (tSeq (tDrop (tFn (sp_need_list K) (tCons (tVar 0) (tCons (tVar 1) tNil))))
    (tFor (iSeq K (tVar 0)) (gName 2) (tDrop (tFn (sp_need_integer K) (tCons (tVar 2) (tCons (tJoin [(tC (.str "each part of ")), (tFmt (tVar 1))]) tNil))))))
section
variable {w : World} {K : Frag} {mg : Str → Option Value} {vs : List V} {H : Hp} {Q : VK} {E : XK}
theorem len_need_integers (h : sp_need_integers K vs H Q E) : vs.length = 2 := by obtain ⟨a, l, z, rfl, _⟩ := h; rfl
theorem pure_need_integers (T : Txt w K mg) (h : sp_need_integers K vs H Q E) : t_need_integers K (E1 Q) (start N_need_integers vs) H := by
  obtain ⟨a, l, z, rfl, hs, hz, k⟩ := h
  refine q_drop (ev_fn (ea_cons (ev_var rfl) (ea_cons (ev_var rfl) ea_nil)) (spv_need_list hs)) fun H1 e1 => ?_
  refine s_forA (ea_of (ev_var rfl) (hs.mono e1)) fun p H2 e2 hs2 => ⟨fun i σ' H' => (∃ v, σ' = [some (.ref a), some (.str z), v]) ∧ Ex H2 H', ⟨⟨_, rfl⟩, Ex.refl _⟩, fun i σ' H' pc => Keep.ex pc.2, ?_, fun σ' H' pc => k H' ((e1.trans e2).trans pc.2)⟩
  rintro i x σ' H' hx ⟨⟨v, rfl⟩, e3⟩
  obtain ⟨n, _, rfl⟩ := intV_at hx
  exact s_drop (ev_fn (ea_cons (ev_var rfl) (ea_cons (ev_join (by decide) hz (ev_var rfl)) ea_nil)) spv_need_integer) fun H3 e4 => ⟨⟨_, rfl⟩, e3.trans e4⟩
end
theorem d_need_integers {P : Program} {w : World} {K : Frag} {mg : Str → Option Value} {base : Heap} (T : Txt w K mg) {f : Addr} {cdv : Value} {A : Around} {outer : List Env} {s : Shared} {H : Hp} {E : XK} (hr : Room 2 (A.deeper (envOfC "need_integers" (defScope s_need_integers) s.heap.objs.size f cdv))) :
    PSs (cxOf CX0 P w K mg base N_need_integers "need_integers" (defScope s_need_integers) f cdv A outer s H E).nox (defBody s_need_integers) (t_need_integers K) := by
  exact (pss_cons (ps_expr (pe_f (ok_need_list T) hr (by decide) (by rfl) (pa_cons (pv 0) (pa_cons (pv 1) pa_nil))))
    (pss_one (ps_for PassesOwn.never rfl (pi_seq (pv 0)) (pg_name (i := 2) sc_need_integers.nd rfl (Or.inl rfl)) (pss_one (ps_expr (pe_f (ok_need_integer T) hr (by decide) (by rfl) (pa_cons (pv 2) (pa_cons (pe_joined (PJ.cons pe_str (PJ.cons (pe_fmt (pv 1)) PJ.nil))) pa_nil))))))))
theorem ok_need_integers {P : Program} {w : World} {K : Frag} {mg : Str → Option Value} {base : Heap} (T : Txt w K mg) : GF P w K mg base "need_integers" 3 (sp_need_integers K) := by
  have F := T.def_ (d := xf_need_integers) (memOf 6 rfl) rfl
  refine ⟨fnr_mk (k := 2) F sc_need_integers (fun _ _ _ _ _ _ us hl => match us, hl with | [_, _], _ => rfl) (fun vs H Q E h => len_need_integers h) (fun cdv A outer s H vs Q E hr h => ⟨t_need_integers K, d_need_integers T hr, pure_need_integers T h⟩), ?_, T.glo (memOf 6 rfl)⟩
  obtain ⟨fd, F⟩ := F
  exact F.kp
theorem spv_need_integers {K : Frag} {H : Hp} {a : Addr} {l : List Int} {z : Str} (hs : SqA K H a (intV l)) (hz : z.length ≤ 1000) : SpV (sp_need_integers K) [.ref a, .str z] H .non := fun H1 e Q q E => ⟨a, l, z, rfl, hs.mono e, hz, fun H2 e2 => q H2 e2⟩
/-! as_row -/
def sp_as_row (K : Frag) : Sp := fun vs H Q _ => ∃ a l n, vs = [.ref a, .int n] ∧ SqA K H a (intV l) ∧ (l.length : Int) = n ∧ RetT K (fun l' => l' = l) H Q
/-! as_row -/
abbrev N_as_row : List Str := ["thing", "size"]
abbrev s_as_row : Stmt := top 16
theorem sc_as_row : FnScope N_as_row ["thing", "size"] (defScope s_as_row) := ⟨rfl, rfl, rfl, by decide +kernel, rfl, by decide +kernel, by decide +kernel⟩
def t_as_row (K : Frag) : TS := (tSeq (tDrop (tFn (sp_need_integers K) (tCons (tVar 0) (tCons (tC (.str "a row")) tNil))))
    (tSeq (tIfS (tTest (tOp rNe (tCB (rLenS K) (tCons (tVar 0) tNil)) (tVar 1))) tNever tNext)
    (tRet (tCB (rTupS K) (tCons (tVar 0) tNil)))))
section
variable {w : World} {K : Frag} {mg : Str → Option Value} {vs : List V} {H : Hp} {Q : VK} {E : XK}
theorem len_as_row (h : sp_as_row K vs H Q E) : vs.length = 2 := by obtain ⟨a, l, n, rfl, _⟩ := h; rfl
theorem pure_as_row (T : Txt w K mg) (h : sp_as_row K vs H Q E) : t_as_row K (E1 Q) (start N_as_row vs) H := by
  obtain ⟨a, l, n, rfl, hs, hn, k⟩ := h
  refine q_drop (ev_fn (ea_cons (ev_var rfl) (ea_cons ev_c ea_nil)) (spv_need_integers hs (by decide))) fun H1 e1 => ?_
  refine q_not (et_is (et_test (ev_neI (ev_len' (ev_var rfl) (hs.mono e1)) (ev_var rfl))) (by rw [intV_len, hn]; simp)) fun H2 e2 => ?_
  exact s_retX (evx_tupA (ev_var rfl) (hs.mono (e1.trans e2))) fun v H3 e3 ⟨p, ev, ht⟩ => by
    subst ev
    exact k p H3 l ((e1.trans e2).trans e3) ht rfl
end
theorem d_as_row {P : Program} {w : World} {K : Frag} {mg : Str → Option Value} {base : Heap} (T : Txt w K mg) {f : Addr} {cdv : Value} {A : Around} {outer : List Env} {s : Shared} {H : Hp} {E : XK} (hr : Room 3 (A.deeper (envOfC "as_row" (defScope s_as_row) s.heap.objs.size f cdv))) :
    PSs (cxOf CX0 P w K mg base N_as_row "as_row" (defScope s_as_row) f cdv A outer s H E).nox (defBody s_as_row) (t_as_row K) := by
  exact (pss_cons (ps_expr (pe_f (ok_need_integers T) hr (by decide) (by rfl) (pa_cons (pv 0) (pa_cons pe_str pa_nil))))
    (pss_cons (ps_if (pt_cmpR op_ne (pe_callB call_len_seq (by rfl) (T.free (memOf 0 rfl)) b_len (pa_cons (pv 0) pa_nil)) (pv 1) (nomark _)) (pss_one ps_never) pss_nil)
    (pss_one (ps_ret (pe_callTy call_tuple_of (by rfl) (T.free (memOf 6 rfl)) b_tuple (pa_cons (pv 0) pa_nil))))))
theorem ok_as_row {P : Program} {w : World} {K : Frag} {mg : Str → Option Value} {base : Heap} (T : Txt w K mg) : GF P w K mg base "as_row" 4 (sp_as_row K) := by
  have F := T.def_ (d := xf_as_row) (memOf 7 rfl) rfl
  refine ⟨fnr_mk (k := 3) F sc_as_row (fun _ _ _ _ _ _ us hl => match us, hl with | [_, _], _ => rfl) (fun vs H Q E h => len_as_row h) (fun cdv A outer s H vs Q E hr h => ⟨t_as_row K, d_as_row T hr, pure_as_row T h⟩), ?_, T.glo (memOf 7 rfl)⟩
  obtain ⟨fd, F⟩ := F
  exact F.kp
/-! as_stands -/
def sp_as_stands (K : Frag) : Sp := fun vs H Q _ => ∃ a l n, vs = [.ref a, .int n] ∧ SqA K H a (intV l) ∧ (∀ x ∈ l, 0 ≤ x ∧ x < n) ∧ l.length ≤ 60 ∧ RetT K (fun l' => (∀ x, x ∈ l' ↔ x ∈ l) ∧ l'.Pairwise (· < ·) ∧ l'.length ≤ 60) H Q
/-! as_stands -/
abbrev N_as_stands : List Str := ["thing", "size", "one_stand"]
abbrev s_as_stands : Stmt := top 17
theorem sc_as_stands : FnScope N_as_stands ["thing", "size"] (defScope s_as_stands) := ⟨rfl, rfl, rfl, by decide +kernel, rfl, by decide +kernel, by decide +kernel⟩
def t_as_stands (K : Frag) (w : World) : TS := (tSeq (tDrop (tFn (sp_need_integers K) (tCons (tVar 0) (tCons (tC (.str "a set of stands")) tNil))))
    (tSeq (tFor (iSeq K (tVar 0)) (gName 2) (tDrop (tFn (sp_need_between K) (tCons (tVar 2) (tCons (tC (.int 0)) (tCons (tOp rSub (tVar 1) (tC (.int 1))) (tCons (tC (.str "a stand")) tNil)))))))
    (tRet (tCB (rTupS K) (tCons (tCB (rSortedSet w) (tCons (tCB (rSetA K w) (tCons (tVar 0) tNil)) tNil)) tNil)))))
/-- tuple(sorted(set(xs))) -/
theorem evx_sortedSet {w : World} {K : Frag} {σ : L2.St} {H : Hp} {ta : TE} {a : Addr} {l : List Int} (ha : Ev ta σ H (.ref a)) (hs : SqA K H a (intV l)) (hz : l.length ≤ 60) :
    EvX (tCB (rTupS K) (tCons (tCB (rSortedSet w) (tCons (tCB (rSetA K w) (tCons ta tNil)) tNil)) tNil)) σ H (fun y H2 => ∃ p l', y = .ref p ∧ SqT K H2 p (intV l') ∧ (∀ x, x ∈ l' ↔ x ∈ l) ∧ l'.Pairwise (· < ·) ∧ l'.length ≤ 60) := fun H1 e Q q =>
  ha H1 e _ fun H2 e2 => ⟨a, l, rfl, hs.mono (e.trans e2), by omega, fun p n hn hp => ⟨p, _, n, rfl, upd_same, by omega, fun ns p2 h1 h2 h3 hp2 => ⟨p2, intV ns, rfl, .inl ⟨sq_of upd_same, fun p3 hp3 => by
    refine q _ _ (((e2.trans (Ex.new hp)).trans (Ex.new hp2)).trans (Ex.new hp3)) ⟨p3, ns, rfl, st_of upd_same, fun x => ?_, h1, by omega⟩
    rw [h2 x]
    simp⟩⟩⟩⟩
section
variable {w : World} {K : Frag} {mg : Str → Option Value} {vs : List V} {H : Hp} {Q : VK} {E : XK}
theorem len_as_stands (h : sp_as_stands K vs H Q E) : vs.length = 2 := by obtain ⟨a, l, n, rfl, _⟩ := h; rfl
theorem pure_as_stands (T : Txt w K mg) (h : sp_as_stands K vs H Q E) : t_as_stands K w (E1 Q) (start N_as_stands vs) H := by
  obtain ⟨a, l, n, rfl, hs, hx, hz, k⟩ := h
  refine q_drop (ev_fn (ea_cons (ev_var rfl) (ea_cons ev_c ea_nil)) (spv_need_integers hs (by decide))) fun H1 e1 => ?_
  refine q_forA (ea_of (ev_var rfl) (hs.mono e1)) fun p H2 e2 hs2 => ⟨fun i σ' H' => (∃ v, σ' = [some (.ref a), some (.int n), v]) ∧ Ex H2 H', ⟨⟨_, rfl⟩, Ex.refl _⟩, fun i σ' H' pc => Keep.ex pc.2, ?_, ?_⟩
  · rintro i x σ' H' hi ⟨⟨v, rfl⟩, e3⟩
    obtain ⟨m, hm, rfl⟩ := intV_at hi
    have hb := hx m (List.mem_of_getElem? hm)
    exact s_drop (ev_fn (ea_cons (ev_var rfl) (ea_cons ev_c (ea_cons (ev_I (ev_var rfl) ev_c) (ea_cons ev_c ea_nil)))) (spv_need_between hb.1 (by omega))) fun H3 e4 => ⟨⟨_, rfl⟩, e3.trans e4⟩
  · rintro σ' H' ⟨⟨v, rfl⟩, e3⟩
    have e4 := (e1.trans e2).trans e3
    exact s_retX (evx_sortedSet (ev_var rfl) (hs.mono e4) hz) fun y H3 e5 ⟨p3, l', ey, ht, h1, h2, h3⟩ => by
      subst ey
      exact k p3 H3 l' (e4.trans e5) ht ⟨h1, h2, h3⟩
end
theorem d_as_stands {P : Program} {w : World} {K : Frag} {mg : Str → Option Value} {base : Heap} (T : Txt w K mg) {f : Addr} {cdv : Value} {A : Around} {outer : List Env} {s : Shared} {H : Hp} {E : XK} (hr : Room 3 (A.deeper (envOfC "as_stands" (defScope s_as_stands) s.heap.objs.size f cdv))) :
    PSs (cxOf CX0 P w K mg base N_as_stands "as_stands" (defScope s_as_stands) f cdv A outer s H E).nox (defBody s_as_stands) (t_as_stands K w) := by
  exact (pss_cons (ps_expr (pe_f (ok_need_integers T) hr (by decide) (by rfl) (pa_cons (pv 0) (pa_cons pe_str pa_nil))))
    (pss_cons (ps_for PassesOwn.never rfl (pi_seq (pv 0)) (pg_name (i := 2) sc_as_stands.nd rfl (Or.inl rfl)) (pss_one (ps_expr (pe_f (ok_need_between T) hr (by decide) (by rfl) (pa_cons (pv 2) (pa_cons pe_int (pa_cons (pe_op op_sub (pv 1) pe_int) (pa_cons pe_str pa_nil))))))))
    (pss_one (ps_ret (pe_callTy call_tuple_of (by rfl) (T.free (memOf 6 rfl)) b_tuple (pa_cons (pe_callB (cr_sortedSet rfl) (by rfl) (T.free (memOf 9 rfl)) b_sorted (pa_cons (pe_callTy (call_setA rfl) (by rfl) (T.free (memOf 8 rfl)) b_set (pa_cons (pv 0) pa_nil)) pa_nil)) pa_nil))))))
theorem ok_as_stands {P : Program} {w : World} {K : Frag} {mg : Str → Option Value} {base : Heap} (T : Txt w K mg) : GF P w K mg base "as_stands" 4 (sp_as_stands K) := by
  have F := T.def_ (d := xf_as_stands) (memOf 8 rfl) rfl
  refine ⟨fnr_mk (k := 3) F sc_as_stands (fun _ _ _ _ _ _ us hl => match us, hl with | [_, _], _ => rfl) (fun vs H Q E h => len_as_stands h) (fun cdv A outer s H vs Q E hr h => ⟨t_as_stands K w, d_as_stands T hr, pure_as_stands T h⟩), ?_, T.glo (memOf 8 rfl)⟩
  obtain ⟨fd, F⟩ := F
  exact F.kp
/-! ### dues -/
/-- a due as a value -/
def DueV (K : Frag) (H : Hp) : Due → V → Prop
  | .no, v => v = .non
  | .chips x, v => ∃ a, v = .ref a ∧ SqT K H a [.str "chips", .int x]
  | .less x, v => ∃ a, v = .ref a ∧ SqT K H a [.str "less", .int x]
theorem DueV.mono {K : Frag} {H H' : Hp} {d : Due} {v : V} (e : Ex H H') (h : DueV K H d v) : DueV K H' d v := by
  cases d with
  | no => exact h
  | chips x => obtain ⟨a, e1, h1⟩ := h; exact ⟨a, e1, ex_t e h1⟩
  | less x => obtain ⟨a, e1, h1⟩ := h; exact ⟨a, e1, ex_t e h1⟩
/-- its word and number -/
theorem DueV.cases {K : Frag} {H : Hp} {d : Due} {v : V} (h : DueV K H d v) : (d = .no ∧ v = .non) ∨ ∃ a x s, v = .ref a ∧ SqT K H a [.str s, .int x] ∧ ((d = .chips x ∧ s = "chips") ∨ (d = .less x ∧ s = "less")) := by
  cases d with
  | no => exact .inl ⟨rfl, h⟩
  | chips x => obtain ⟨a, e1, h1⟩ := h; exact .inr ⟨a, x, _, e1, h1, .inl ⟨rfl, rfl⟩⟩
  | less x => obtain ⟨a, e1, h1⟩ := h; exact .inr ⟨a, x, _, e1, h1, .inr ⟨rfl, rfl⟩⟩
def dueX : Due → Int
  | .no => 0
  | .chips x => x
  | .less x => x
theorem str_cl : ¬ ((("less" : Str)) = ("chips" : Str)) := by decide +kernel
def sp_has_due_kind (K : Frag) : Sp := fun vs H Q _ => ∃ v d, vs = [v] ∧ DueV K H d v ∧ RetV (.bl true) H Q
/-! has_due_kind -/
abbrev N_has_due_kind : List Str := ["due"]
abbrev s_has_due_kind : Stmt := top 20
theorem sc_has_due_kind : FnScope N_has_due_kind ["due"] (defScope s_has_due_kind) := ⟨rfl, rfl, rfl, by decide +kernel, rfl, by decide +kernel, by decide +kernel⟩
def t_has_due_kind (K : Frag) : TS := (tSeq (tIfS (tTest (tOp rIsN (tVar 0) (tC .non))) (tRet (tC (.bl true))) tNext)
    (tSeq (tIfS (tOr (tNot (tB (tCB (rIsiT K) (tCons (tVar 0) (tCons (tTup (tCons (tC (.ty "list")) (tCons (tC (.ty "tuple")) tNil))) tNil))))) (tTest (tOp rNe (tCB (rLenS K) (tCons (tVar 0) tNil)) (tC (.int 2))))) (tRet (tC (.bl false))) tNext)
    (tRet (tAndV (tCB (rIsi K) (tCons (tOp (rIx K) (tVar 0) (tC (.int 0))) (tCons (tC (.ty "str")) tNil))) (tFn (sp_is_integer K) (tCons (tOp (rIx K) (tVar 0) (tC (.int 1))) tNil))))))
section
variable {w : World} {K : Frag} {mg : Str → Option Value} {vs : List V} {H : Hp} {Q : VK} {E : XK}
theorem len_has_due_kind (h : sp_has_due_kind K vs H Q E) : vs.length = 1 := by obtain ⟨v, d, rfl, _⟩ := h; rfl
theorem pure_has_due_kind (T : Txt w K mg) (h : sp_has_due_kind K vs H Q E) : t_has_due_kind K (E1 Q) (start N_has_due_kind vs) H := by
  obtain ⟨v, d, rfl, hd, k⟩ := h
  rcases hd.cases with ⟨rfl, rfl⟩ | ⟨a, x, s, rfl, hs, _⟩
  · exact q_when (et_test (ev_isN (ev_var rfl))) (fun _ H1 e1 => s_ret ev_c fun H2 e2 => k H2 (e1.trans e2)) fun z => nomatch z
  · refine q_not (et_is (et_test (ev_isN (ev_var rfl))) rfl) fun H1 e1 => ?_
    refine q_not (et_or (a := false) (b := false) (et_not (et_B (ev_isiLT (ev_var rfl) (.t (ex_t e1 hs))))) fun _ => et_is (et_test (ev_neI (ev_len' (ev_var rfl) (.t (ex_t e1 hs))) ev_c)) rfl) fun H2 e2 => ?_
    have hs2 : SqA K H2 a [.str s, .int x] := .t (ex_t (e1.trans e2) hs)
    exact s_ret (ev_andV (ev_isiStr (ev_ix (ev_var rfl) ev_c hs2 rfl)) fun _ => ev_fn (ea_cons (ev_ix (ev_var rfl) ev_c hs2 rfl) ea_nil) spv_is_integer) fun H3 e3 => k H3 ((e1.trans e2).trans e3)
end
theorem d_has_due_kind {P : Program} {w : World} {K : Frag} {mg : Str → Option Value} {base : Heap} (T : Txt w K mg) {f : Addr} {cdv : Value} {A : Around} {outer : List Env} {s : Shared} {H : Hp} {E : XK} (hr : Room 1 (A.deeper (envOfC "has_due_kind" (defScope s_has_due_kind) s.heap.objs.size f cdv))) :
    PSs (cxOf CX0 P w K mg base N_has_due_kind "has_due_kind" (defScope s_has_due_kind) f cdv A outer s H E).nox (defBody s_has_due_kind) (t_has_due_kind K) := by
  exact (pss_cons (ps_if (pt_cmpR op_isN1 (pv 0) pe_non (nomark _)) (pss_one (ps_ret pe_bl)) pss_nil)
    (pss_cons (ps_if (PW.pt (pw_or (pt_not (pt_val (pe_callB call_isiT (by rfl) (T.free (memOf 5 rfl)) b_isinstance (pa_cons (pv 0) (pa_cons (pe_tup (pa_cons (pe_bltn (v := .ty "list") (by rfl) (T.free (memOf 7 rfl)) b_list rfl) (pa_cons (pe_bltn (v := .ty "tuple") (by rfl) (T.free (memOf 6 rfl)) b_tuple rfl) pa_nil))) pa_nil))))) (pw_or1 (pt_cmpR op_ne (pe_callB call_len_seq (by rfl) (T.free (memOf 0 rfl)) b_len (pa_cons (pv 0) pa_nil)) pe_int (nomark _))))) (pss_one (ps_ret pe_bl)) pss_nil)
    (pss_one (ps_ret (pe_and (pe_callB call_isi (by rfl) (T.free (memOf 5 rfl)) b_isinstance (pa_cons (pe_ix ix_seq (pv 0) pe_int (fun _ _ => rfl)) (pa_cons (pe_bltn (v := .ty "str") (by rfl) (T.free (memOf 13 rfl)) b_str rfl) pa_nil))) (pe_one (pe_f (ok_is_integer T) hr (by decide) (by rfl) (pa_cons (pe_ix ix_seq (pv 0) pe_int (fun _ _ => rfl)) pa_nil))))))))
theorem ok_has_due_kind {P : Program} {w : World} {K : Frag} {mg : Str → Option Value} {base : Heap} (T : Txt w K mg) : GF P w K mg base "has_due_kind" 2 (sp_has_due_kind K) := by
  have F := T.def_ (d := xf_has_due_kind) (memOf 9 rfl) rfl
  refine ⟨fnr_mk (k := 1) F sc_has_due_kind (fun _ _ _ _ _ _ us hl => match us, hl with | [_], _ => rfl) (fun vs H Q E h => len_has_due_kind h) (fun cdv A outer s H vs Q E hr h => ⟨t_has_due_kind K, d_has_due_kind T hr, pure_has_due_kind T h⟩), ?_, T.glo (memOf 9 rfl)⟩
  obtain ⟨fd, F⟩ := F
  exact F.kp
theorem spv_has_due_kind {K : Frag} {H : Hp} {d : Due} {v : V} (hd : DueV K H d v) : SpV (sp_has_due_kind K) [v] H (.bl true) := fun H1 e Q q E => ⟨v, d, rfl, hd.mono e, fun H2 e2 => q H2 e2⟩
def sp_has_due_range (K : Frag) : Sp := fun vs H Q _ => ∃ v d, vs = [v] ∧ DueV K H d v ∧ d.ok ∧ RetV (.bl true) H Q
/-! has_due_range -/
abbrev N_has_due_range : List Str := ["due"]
abbrev s_has_due_range : Stmt := top 21
theorem sc_has_due_range : FnScope N_has_due_range ["due"] (defScope s_has_due_range) := ⟨rfl, rfl, rfl, by decide +kernel, rfl, by decide +kernel, by decide +kernel⟩
def t_has_due_range (K : Frag) : TS := (tRet (tOrV (tOp rIsN (tVar 0) (tC .non)) (tAndV (tOp (rIn K false) (tOp (rIx K) (tVar 0) (tC (.int 0))) (tTup (tCons (tC (.str "chips")) (tCons (tC (.str "less")) tNil)))) (tOp rGe (tOp (rIx K) (tVar 0) (tC (.int 1))) (tC (.int 0))))))
section
variable {w : World} {K : Frag} {mg : Str → Option Value} {vs : List V} {H : Hp} {Q : VK} {E : XK}
theorem len_has_due_range (h : sp_has_due_range K vs H Q E) : vs.length = 1 := by obtain ⟨v, d, rfl, _⟩ := h; rfl
theorem pure_has_due_range (T : Txt w K mg) (h : sp_has_due_range K vs H Q E) : t_has_due_range K (E1 Q) (start N_has_due_range vs) H := by
  obtain ⟨v, d, rfl, hd, ok, k⟩ := h
  rcases hd.cases with ⟨rfl, rfl⟩ | ⟨a, x, s, rfl, hs, hx⟩
  · exact s_ret (ev_orV (b := true) (ev_isN (ev_var rfl)) fun z => nomatch z) fun H2 e2 => k H2 e2
  · have hs2 : SqA K H a [.str s, .int x] := .t hs
    have hx0 : 0 ≤ x := by
      rcases hx with ⟨rfl, _⟩ | ⟨rfl, _⟩
      · exact ok
      · exact ok
    have hin : inV (.str s) [.str "chips", .str "less"] = true := by
      rcases hx with ⟨_, rfl⟩ | ⟨_, rfl⟩
      · decide +kernel
      · decide +kernel
    refine s_ret (ev_is (ev_orV (b := true) (ev_isN (ev_var rfl)) fun _ => ev_andV (a := true) (b := true) (ev_is (ev_inU (ev_ix (ev_var rfl) ev_c hs2 rfl) (eu_tup (ea_cons ev_c (ea_cons ev_c ea_nil)) (by decide)) rfl rfl) (by rw [hin])) fun _ => ev_is (ev_I (ev_ix (ev_var rfl) ev_c hs2 rfl) ev_c) (by rw [decide_eq_true hx0])) rfl) fun H2 e2 => k H2 e2
end
theorem d_has_due_range {P : Program} {w : World} {K : Frag} {mg : Str → Option Value} {base : Heap} (T : Txt w K mg) {f : Addr} {cdv : Value} {A : Around} {outer : List Env} {s : Shared} {H : Hp} {E : XK} (hr : Room 0 (A.deeper (envOfC "has_due_range" (defScope s_has_due_range) s.heap.objs.size f cdv))) :
    PSs (cxOf CX0 P w K mg base N_has_due_range "has_due_range" (defScope s_has_due_range) f cdv A outer s H E).nox (defBody s_has_due_range) (t_has_due_range K) := by
  exact (pss_one (ps_ret (pe_or (pe_cmpR op_isN1 (pv 0) pe_non (nomark _)) (pe_one (pe_and (pe_cmpR op_in_seq (pe_ix ix_seq (pv 0) pe_int (fun _ _ => rfl)) (pe_tup (pa_cons pe_str (pa_cons pe_str pa_nil))) rfl) (pe_one (pe_cmpR op_ge (pe_ix ix_seq (pv 0) pe_int (fun _ _ => rfl)) pe_int (nomark _))))))))
theorem ok_has_due_range {P : Program} {w : World} {K : Frag} {mg : Str → Option Value} {base : Heap} (T : Txt w K mg) : GF P w K mg base "has_due_range" 1 (sp_has_due_range K) := by
  have F := T.def_ (d := xf_has_due_range) (memOf 10 rfl) rfl
  refine ⟨fnr_mk (k := 0) F sc_has_due_range (fun _ _ _ _ _ _ us hl => match us, hl with | [_], _ => rfl) (fun vs H Q E h => len_has_due_range h) (fun cdv A outer s H vs Q E hr h => ⟨t_has_due_range K, d_has_due_range T hr, pure_has_due_range T h⟩), ?_, T.glo (memOf 10 rfl)⟩
  obtain ⟨fd, F⟩ := F
  exact F.kp
theorem spv_has_due_range {K : Frag} {H : Hp} {d : Due} {v : V} (hd : DueV K H d v) (ok : d.ok) : SpV (sp_has_due_range K) [v] H (.bl true) := fun H1 e Q q E => ⟨v, d, rfl, hd.mono e, ok, fun H2 e2 => q H2 e2⟩
def sp_kept_due (K : Frag) : Sp := fun vs H Q _ => ∃ v d, vs = [v] ∧ DueV K H d v ∧ ∀ u H', Ex H H' → DueV K H' d u → Q u H'
/-! kept_due -/
abbrev N_kept_due : List Str := ["due"]
abbrev s_kept_due : Stmt := top 22
theorem sc_kept_due : FnScope N_kept_due ["due"] (defScope s_kept_due) := ⟨rfl, rfl, rfl, by decide +kernel, rfl, by decide +kernel, by decide +kernel⟩
def t_kept_due (K : Frag) : TS := (tRet (tIf (tTest (tOp rIsN (tVar 0) (tC .non))) (tC .non) (tTup (tCons (tOp (rIx K) (tVar 0) (tC (.int 0))) (tCons (tOp (rIx K) (tVar 0) (tC (.int 1))) tNil)))))
section
variable {w : World} {K : Frag} {mg : Str → Option Value} {vs : List V} {H : Hp} {Q : VK} {E : XK}
theorem len_kept_due (h : sp_kept_due K vs H Q E) : vs.length = 1 := by obtain ⟨v, d, rfl, _⟩ := h; rfl
theorem pure_kept_due (T : Txt w K mg) (h : sp_kept_due K vs H Q E) : t_kept_due K (E1 Q) (start N_kept_due vs) H := by
  obtain ⟨v, d, rfl, hd, k⟩ := h
  rcases hd.cases with ⟨rfl, rfl⟩ | ⟨a, x, s, rfl, hs, hx⟩
  · exact s_ret (ev_if (b := true) (et_is (et_test (ev_isN (ev_var rfl))) rfl) (fun _ => ev_c) fun z => nomatch z) fun H2 e2 => k _ H2 e2 rfl
  · have hs2 : SqA K H a [.str s, .int x] := .t hs
    have key : EvX (tTup (tCons (tOp (rIx K) (tVar 0) (tC (.int 0))) (tCons (tOp (rIx K) (tVar 0) (tC (.int 1))) tNil))) [some (.ref a)] H (fun y H2 => ∃ p, y = .ref p ∧ H2 p = some (.tup [.str s, .int x])) :=
      EvU.toX (eu_tup (vs := [.str s, .int x]) (ea_cons (ev_ix (ev_var rfl) ev_c hs2 rfl) (ea_cons (ev_ix (ev_var rfl) ev_c hs2 rfl) ea_nil)) (by show 2 ≤ 100000; decide))
    have h0 : EvT (tTest (tOp rIsN (tVar 0) (tC .non))) [some (.ref a)] H false := et_is (et_test (ev_isN (ev_var rfl))) rfl
    refine h0 H (Ex.refl _) _ fun H1 e1 => ?_
    refine iteF ?_
    refine key H1 e1 _ fun u H2 e2 ⟨p, eu, hp⟩ => k u H2 (e1.trans e2) ?_
    subst eu
    rcases hx with ⟨rfl, rfl⟩ | ⟨rfl, rfl⟩
    · exact ⟨p, rfl, st_of hp⟩
    · exact ⟨p, rfl, st_of hp⟩
end
theorem d_kept_due {P : Program} {w : World} {K : Frag} {mg : Str → Option Value} {base : Heap} (T : Txt w K mg) {f : Addr} {cdv : Value} {A : Around} {outer : List Env} {s : Shared} {H : Hp} {E : XK} (hr : Room 0 (A.deeper (envOfC "kept_due" (defScope s_kept_due) s.heap.objs.size f cdv))) :
    PSs (cxOf CX0 P w K mg base N_kept_due "kept_due" (defScope s_kept_due) f cdv A outer s H E).nox (defBody s_kept_due) (t_kept_due K) := by
  exact (pss_one (ps_ret (pe_ifExp (pt_cmpR op_isN1 (pv 0) pe_non (nomark _)) pe_non (pe_tup (pa_cons (pe_ix ix_seq (pv 0) pe_int (fun _ _ => rfl)) (pa_cons (pe_ix ix_seq (pv 0) pe_int (fun _ _ => rfl)) pa_nil))))))
theorem ok_kept_due {P : Program} {w : World} {K : Frag} {mg : Str → Option Value} {base : Heap} (T : Txt w K mg) : GF P w K mg base "kept_due" 1 (sp_kept_due K) := by
  have F := T.def_ (d := xf_kept_due) (memOf 11 rfl) rfl
  refine ⟨fnr_mk (k := 0) F sc_kept_due (fun _ _ _ _ _ _ us hl => match us, hl with | [_], _ => rfl) (fun vs H Q E h => len_kept_due h) (fun cdv A outer s H vs Q E hr h => ⟨t_kept_due K, d_kept_due T hr, pure_kept_due T h⟩), ?_, T.glo (memOf 11 rfl)⟩
  obtain ⟨fd, F⟩ := F
  exact F.kp
def sp_due_at (K : Frag) : Sp := fun vs H Q _ => ∃ v d k, vs = [v, .int k] ∧ DueV K H d v ∧ RetV (.int (dueAt d (k + 1))) H Q
/-! due_at -/
abbrev N_due_at : List Str := ["due", "k"]
abbrev s_due_at : Stmt := top 23
theorem sc_due_at : FnScope N_due_at ["due", "k"] (defScope s_due_at) := ⟨rfl, rfl, rfl, by decide +kernel, rfl, by decide +kernel, by decide +kernel⟩
def t_due_at (K : Frag) : TS := (tSeq (tIfS (tTest (tOp rIsN (tVar 0) (tC .non))) (tRet (tOp rAdd (tVar 1) (tC (.int 1)))) tNext)
    (tSeq (tIfS (tTest (tOp rEq (tOp (rIx K) (tVar 0) (tC (.int 0))) (tC (.str "chips")))) (tRet (tCB rMin2' (tCons (tOp (rIx K) (tVar 0) (tC (.int 1))) (tCons (tOp rAdd (tVar 1) (tC (.int 1))) tNil)))) tNext)
    (tRet (tCB rMax2' (tCons (tC (.int 0)) (tCons (tOp rSub (tOp rAdd (tVar 1) (tC (.int 1))) (tOp (rIx K) (tVar 0) (tC (.int 1)))) tNil))))))
section
variable {w : World} {K : Frag} {mg : Str → Option Value} {vs : List V} {H : Hp} {Q : VK} {E : XK}
theorem len_due_at (h : sp_due_at K vs H Q E) : vs.length = 2 := by obtain ⟨v, d, k, rfl, _⟩ := h; rfl
theorem pure_due_at (T : Txt w K mg) (h : sp_due_at K vs H Q E) : t_due_at K (E1 Q) (start N_due_at vs) H := by
  obtain ⟨v, d, k, rfl, hd, q⟩ := h
  rcases hd.cases with ⟨rfl, rfl⟩ | ⟨a, x, s, rfl, hs, hx⟩
  · exact q_when (et_test (ev_isN (ev_var rfl))) (fun _ H1 e1 => s_ret (ev_I (ev_var rfl) ev_c) fun H2 e2 => q H2 (e1.trans e2)) fun z => nomatch z
  · refine q_not (et_is (et_test (ev_isN (ev_var rfl))) rfl) fun H1 e1 => ?_
    have hs2 : SqA K H1 a [.str s, .int x] := .t (ex_t e1 hs)
    have t0 := et_test (ev_eqS (ev_ix (ta := tVar 0) (tb := tC (.int 0)) (σ := [some (.ref a), some (.int k)]) (ev_var rfl) ev_c hs2 rfl) (ev_c (v := .str "chips")))
    rcases hx with ⟨rfl, rfl⟩ | ⟨rfl, rfl⟩
    · exact q_when (et_is t0 (b := true) (decide_eq_true rfl)) (fun _ H2 e2 => s_ret (ev_mn (ev_ix (ev_var rfl) ev_c (hs2.mono e2) rfl) (ev_I (ev_var rfl) ev_c)) fun H3 e3 => q H3 ((e1.trans e2).trans e3)) fun z => nomatch z
    · refine q_not (et_is t0 (decide_eq_false fun z => str_cl (V.str.inj z))) fun H2 e2 => ?_
      exact s_ret (ev_mx ev_c (ev_I (ev_I (ev_var rfl) ev_c) (ev_ix (ev_var rfl) ev_c (hs2.mono e2) rfl))) fun H3 e3 => q H3 ((e1.trans e2).trans e3)
end
theorem d_due_at {P : Program} {w : World} {K : Frag} {mg : Str → Option Value} {base : Heap} (T : Txt w K mg) {f : Addr} {cdv : Value} {A : Around} {outer : List Env} {s : Shared} {H : Hp} {E : XK} (hr : Room 0 (A.deeper (envOfC "due_at" (defScope s_due_at) s.heap.objs.size f cdv))) :
    PSs (cxOf CX0 P w K mg base N_due_at "due_at" (defScope s_due_at) f cdv A outer s H E).nox (defBody s_due_at) (t_due_at K) := by
  exact (pss_cons (ps_if (pt_cmpR op_isN1 (pv 0) pe_non (nomark _)) (pss_one (ps_ret (pe_op op_add (pv 1) pe_int))) pss_nil)
    (pss_cons (ps_if (pt_cmpR op_eq (pe_ix ix_seq (pv 0) pe_int (fun _ _ => rfl)) pe_str (nomark _)) (pss_one (ps_ret (pe_callB (call_min2 rfl) (by rfl) (T.free (memOf 2 rfl)) b_min (pa_cons (pe_ix ix_seq (pv 0) pe_int (fun _ _ => rfl)) (pa_cons (pe_op op_add (pv 1) pe_int) pa_nil))))) pss_nil)
    (pss_one (ps_ret (pe_callB (call_max2 rfl) (by rfl) (T.free (memOf 3 rfl)) b_max (pa_cons pe_int (pa_cons (pe_op op_sub (pe_op op_add (pv 1) pe_int) (pe_ix ix_seq (pv 0) pe_int (fun _ _ => rfl))) pa_nil)))))))
theorem ok_due_at {P : Program} {w : World} {K : Frag} {mg : Str → Option Value} {base : Heap} (T : Txt w K mg) : GF P w K mg base "due_at" 1 (sp_due_at K) := by
  have F := T.def_ (d := xf_due_at) (memOf 12 rfl) rfl
  refine ⟨fnr_mk (k := 0) F sc_due_at (fun _ _ _ _ _ _ us hl => match us, hl with | [_, _], _ => rfl) (fun vs H Q E h => len_due_at h) (fun cdv A outer s H vs Q E hr h => ⟨t_due_at K, d_due_at T hr, pure_due_at T h⟩), ?_, T.glo (memOf 12 rfl)⟩
  obtain ⟨fd, F⟩ := F
  exact F.kp
theorem spv_due_at {K : Frag} {H : Hp} {d : Due} {v : V} {k : Int} (hd : DueV K H d v) : SpV (sp_due_at K) [v, .int k] H (.int (dueAt d (k + 1))) := fun H1 e Q q E => ⟨v, d, k, rfl, hd.mono e, fun H2 e2 => q H2 e2⟩
/-- the dues of a web's stands, in order -/
def DuesV (K : Frag) (H : Hp) (a : Addr) (n : Nat) (d : Int → Due) : Prop := ∃ g : Int → V, SqA K H a ((ran n).map g) ∧ ∀ v : Int, 0 ≤ v → v < n → DueV K H (d v) (g v)
theorem DuesV.mono {K : Frag} {H H' : Hp} {a : Addr} {n : Nat} {d : Int → Due} (e : Ex H H') (h : DuesV K H a n d) : DuesV K H' a n d := by
  obtain ⟨g, h1, h2⟩ := h
  exact ⟨g, h1.mono e, fun v a b => (h2 v a b).mono e⟩
theorem atI_ran {n : Nat} {g : Int → V} {v : Int} (h0 : 0 ≤ v) (h1 : v < n) : atI ((ran n).map g) v = some (g v) := by
  refine atI_of h0 ?_
  rw [List.getElem?_map, ran_get (by omega)]
  show some (g ((v.toNat : Nat) : Int)) = _
  rw [Int.toNat_of_nonneg h0]
theorem ranV_len (n : Nat) (g : Int → V) : ((ran n).map g).length = n := by rw [List.length_map, ran_len]
def RetR (K : Frag) (n : Nat) (f : Int → Int) (H : Hp) (Q : VK) : Prop := ∀ p H', Ex H H' → SqT K H' p (rowV n f) → Q (.ref p) H'
def sp_due_row (K : Frag) : Sp := fun vs H Q _ => ∃ a n d k, vs = [.ref a, .int k] ∧ DuesV K H a n d ∧ n ≤ 60 ∧ RetR K n (fun v => dueAt (d v) (k + 1)) H Q
/-! due_row -/
abbrev N_due_row : List Str := ["dues", "k", "stand"]
abbrev s_due_row : Stmt := top 24
theorem sc_due_row : FnScope N_due_row ["dues", "k"] (defScope s_due_row) := ⟨rfl, rfl, rfl, by decide +kernel, rfl, by decide +kernel, by decide +kernel⟩
def t_due_row (K : Frag) : TS := (tRet (tCB (rTupS K) (tCons (tLc (iRng1 (tCons (tCB (rLenS K) (tCons (tVar 0) tNil)) tNil)) (gName 2) tYes (tFn (sp_due_at K) (tCons (tOp (rIx K) (tVar 0) (tVar 2)) (tCons (tVar 1) tNil))) [2]) tNil)))
section
variable {w : World} {K : Frag} {mg : Str → Option Value} {vs : List V} {H : Hp} {Q : VK} {E : XK}
theorem len_due_row (h : sp_due_row K vs H Q E) : vs.length = 2 := by obtain ⟨a, n, d, k, rfl, _⟩ := h; rfl
theorem pure_due_row (T : Txt w K mg) (h : sp_due_row K vs H Q E) : t_due_row K (E1 Q) (start N_due_row vs) H := by
  obtain ⟨a, n, d, k, rfl, ⟨g, hs, hd⟩, hn, q⟩ := h
  have hl : Ev (tCB (rLenS K) (tCons (tVar 0) tNil)) (start N_due_row [.ref a, .int k]) H (.int (n : Int)) := by
    have := ev_len' (σ := start N_due_row [.ref a, .int k]) (ev_var (i := 0) rfl) hs
    rw [ranV_len] at this
    exact this
  have key := el_lr (σ := start N_due_row [.ref a, .int k]) (j := 2) (ws := [2]) (t := tYes) (te := tFn (sp_due_at K) (tCons (tOp (rIx K) (tVar 0) (tVar 2)) (tCons (tVar 1) tNil))) (f := fun _ => true) (g := fun v => V.int (dueAt (d v) (k + 1)))
    (ea_cons hl ea_nil) ⟨by omega, by omega⟩ (fun _ => rfl) (fun _ _ _ _ _ => et_yes) (fun v H1 e1 h0 h1 _ => ev_fn (ea_cons (ev_ix (ev_var rfl) (ev_var rfl) (hs.mono e1) (atI_ran h0 h1)) (ea_cons (ev_var rfl) ea_nil)) (spv_due_at ((hd v h0 h1).mono e1)))
  rw [filter_yes, Int.toNat_natCast] at key
  exact s_retX (evx_tupL key) fun y H1 e1 ⟨p, ey, ht⟩ => by
    subst ey
    exact q p H1 e1 (by rw [rowV_ran]; exact ht)
end
theorem d_due_row {P : Program} {w : World} {K : Frag} {mg : Str → Option Value} {base : Heap} (T : Txt w K mg) {f : Addr} {cdv : Value} {A : Around} {outer : List Env} {s : Shared} {H : Hp} {E : XK} (hr : Room 1 (A.deeper (envOfC "due_row" (defScope s_due_row) s.heap.objs.size f cdv))) :
    PSs (cxOf CX0 P w K mg base N_due_row "due_row" (defScope s_due_row) f cdv A outer s H E).nox (defBody s_due_row) (t_due_row K) := by
  exact (pss_one (ps_ret (pe_callTy call_tuple_of (by rfl) (T.free (memOf 6 rfl)) b_tuple (pa_cons (pe_lc (own := [("stand", 2)]) (g := gName 2) (tt := tYes) (te := (tFn (sp_due_at K) (tCons (tOp (rIx K) (tVar 0) (tVar 2)) (tCons (tVar 1) tNil)))) rfl sc_due_row.nd (pi_range1 (by rfl) (T.free (memOf 1 rfl)) (pa_cons (pe_callB call_len_seq (by rfl) (T.free (memOf 0 rfl)) b_len (pa_cons (pv 0) pa_nil)) pa_nil)) (blkOk_by (N := N_due_row) (sc := defScope s_due_row) (by decide +kernel)) (fun _ _ _ _ _ => pg_name (i := 2) sc_due_row.nd rfl (Or.inl rfl)) (fun _ _ _ _ _ => pts_nil) (fun _ _ _ _ _ => (pe_f (ok_due_at T) hr (by decide) (by rfl) (pa_cons (pe_ix ix_seq (pv 0) (pv 2) (fun _ _ => rfl)) (pa_cons (pv 1) pa_nil))))) pa_nil))))
theorem ok_due_row {P : Program} {w : World} {K : Frag} {mg : Str → Option Value} {base : Heap} (T : Txt w K mg) : GF P w K mg base "due_row" 2 (sp_due_row K) := by
  have F := T.def_ (d := xf_due_row) (memOf 13 rfl) rfl
  refine ⟨fnr_mk (k := 1) F sc_due_row (fun _ _ _ _ _ _ us hl => match us, hl with | [_, _], _ => rfl) (fun vs H Q E h => len_due_row h) (fun cdv A outer s H vs Q E hr h => ⟨t_due_row K, d_due_row T hr, pure_due_row T h⟩), ?_, T.glo (memOf 13 rfl)⟩
  obtain ⟨fd, F⟩ := F
  exact F.kp
/-! halves -/
def sp_half_of (K : Frag) : Sp := fun vs H Q _ => ∃ m x y, vs = [.int m, .int x, .int y] ∧ RetV (.int (half m x y)) H Q
/-! half_of -/
abbrev N_half_of : List Str := ["mark", "x", "y"]
abbrev s_half_of : Stmt := top 26
theorem sc_half_of : FnScope N_half_of ["mark", "x", "y"] (defScope s_half_of) := ⟨rfl, rfl, rfl, by decide +kernel, rfl, by decide +kernel, by decide +kernel⟩
def t_half_of (K : Frag) : TS := (tSeq (tIfS (tTest (tOp rEq (tVar 0) (tC (.int 1)))) (tRet (tOp rDiv (tOp rAdd (tVar 1) (tCB rMax2' (tCons (tVar 1) (tCons (tVar 2) tNil)))) (tC (.int 2)))) tNext)
    (tRet (tOp rDiv (tOp rAdd (tOp rAdd (tCB rMin2' (tCons (tVar 1) (tCons (tVar 2) tNil))) (tVar 2)) (tC (.int 1))) (tC (.int 2)))))
section
variable {w : World} {K : Frag} {mg : Str → Option Value} {vs : List V} {H : Hp} {Q : VK} {E : XK}
theorem len_half_of (h : sp_half_of K vs H Q E) : vs.length = 3 := by obtain ⟨m, x, y, rfl, _⟩ := h; rfl
theorem pure_half_of (T : Txt w K mg) (h : sp_half_of K vs H Q E) : t_half_of K (E1 Q) (start N_half_of vs) H := by
  obtain ⟨m, x, y, rfl, k⟩ := h
  refine q_when (et_test (ev_eqI (ev_var rfl) ev_c)) (fun c H1 e1 => ?_) fun c H1 e1 => ?_
  · refine s_ret (ev_Ic (ev_I (ev_var rfl) (ev_mx (ev_var rfl) (ev_var rfl))) ev_c ⟨by decide, by decide⟩) fun H2 e2 => ?_
    have := k H2 (e1.trans e2)
    unfold half at this
    rw [if_pos (of_decide_eq_true c)] at this
    exact this
  · refine s_ret (ev_Ic (ev_I (ev_I (ev_mn (ev_var rfl) (ev_var rfl)) (ev_var rfl)) ev_c) ev_c ⟨by decide, by decide⟩) fun H2 e2 => ?_
    have := k H2 (e1.trans e2)
    unfold half at this
    rw [if_neg (of_decide_eq_false c)] at this
    exact this
end
theorem d_half_of {P : Program} {w : World} {K : Frag} {mg : Str → Option Value} {base : Heap} (T : Txt w K mg) {f : Addr} {cdv : Value} {A : Around} {outer : List Env} {s : Shared} {H : Hp} {E : XK} (hr : Room 0 (A.deeper (envOfC "half_of" (defScope s_half_of) s.heap.objs.size f cdv))) :
    PSs (cxOf CX0 P w K mg base N_half_of "half_of" (defScope s_half_of) f cdv A outer s H E).nox (defBody s_half_of) (t_half_of K) := by
  exact (pss_cons (ps_if (pt_cmpR op_eq (pv 0) pe_int (nomark _)) (pss_one (ps_ret (pe_op op_fdiv (pe_op op_add (pv 1) (pe_callB (call_max2 rfl) (by rfl) (T.free (memOf 3 rfl)) b_max (pa_cons (pv 1) (pa_cons (pv 2) pa_nil)))) pe_int))) pss_nil)
    (pss_one (ps_ret (pe_op op_fdiv (pe_op op_add (pe_op op_add (pe_callB (call_min2 rfl) (by rfl) (T.free (memOf 2 rfl)) b_min (pa_cons (pv 1) (pa_cons (pv 2) pa_nil))) (pv 2)) pe_int) pe_int))))
theorem ok_half_of {P : Program} {w : World} {K : Frag} {mg : Str → Option Value} {base : Heap} (T : Txt w K mg) : GF P w K mg base "half_of" 1 (sp_half_of K) := by
  have F := T.def_ (d := xf_half_of) (memOf 14 rfl) rfl
  refine ⟨fnr_mk (k := 0) F sc_half_of (fun _ _ _ _ _ _ us hl => match us, hl with | [_, _, _], _ => rfl) (fun vs H Q E h => len_half_of h) (fun cdv A outer s H vs Q E hr h => ⟨t_half_of K, d_half_of T hr, pure_half_of T h⟩), ?_, T.glo (memOf 14 rfl)⟩
  obtain ⟨fd, F⟩ := F
  exact F.kp
theorem spv_half_of {K : Frag} {H : Hp} {m x y : Int} : SpV (sp_half_of K) [.int m, .int x, .int y] H (.int (half m x y)) := fun H1 e Q q E => ⟨m, x, y, rfl, fun H2 e2 => q H2 e2⟩
end Pw
end

section
set_option maxRecDepth 100000
set_option maxHeartbeats 4000000
/-! Webs as they stand: the getters, prices, told bids. -/
namespace Pw
open PySem PySem.Spec L2 Evl StX PwS SlX
open PyProof.Rows hiding St
/-! ### comprehensions over ints -/
section
variable {K : Frag} {σ : L2.St} {H H' : Hp} {ta tb te tl : TE} {t : TT} {ar : TA} {x v : V} {a : Addr} {ws : List Nat} {j : Nat} {l : List Int} {p : Int → Bool} {g f : Int → Int} {n : Nat}
theorem el_lcI (hx : EvX tl σ H (fun y H1 => ∃ p, y = .ref p ∧ SqA K H1 p (intV l))) (hz : l.length < 100000) (hw : ∀ x, wipe ((wipe σ ws).set j (some x)) ws = wipe σ ws)
    (ht : ∀ a H1, Ex H H1 → a ∈ l → EvT t ((wipe σ ws).set j (some (.int a))) H1 (p a)) (he : ∀ a H1, Ex H H1 → a ∈ l → p a = true → Ev te ((wipe σ ws).set j (some (.int a))) H1 (.int (g a))) :
    EvL (tLc (iSeq K tl) (gName j) t te ws) σ H (intV ((l.filter p).map g)) := by
  have := el_lc (emb := V.int) (g := fun a => V.int (g a)) hx hz hw ht he
  unfold intV
  rw [List.map_map]
  exact this
theorem el_lcM (hx : EvX tl σ H (fun y H1 => ∃ p, y = .ref p ∧ SqA K H1 p (intV l))) (hz : l.length < 100000) (hw : ∀ x, wipe ((wipe σ ws).set j (some x)) ws = wipe σ ws)
    (he : ∀ a H1, Ex H H1 → a ∈ l → Ev te ((wipe σ ws).set j (some (.int a))) H1 (.int (g a))) : EvL (tLc (iSeq K tl) (gName j) tYes te ws) σ H (intV (l.map g)) := by
  have := el_lcI (p := fun _ => true) (t := tYes) hx hz hw (fun _ _ _ _ => et_yes) fun a H1 e h _ => he a H1 e h
  rw [filter_yes] at this
  exact this
theorem el_lcF (hx : EvX tl σ H (fun y H1 => ∃ p, y = .ref p ∧ SqA K H1 p (intV l))) (hz : l.length < 100000) (hw : ∀ x, wipe ((wipe σ ws).set j (some x)) ws = wipe σ ws)
    (ht : ∀ a H1, Ex H H1 → a ∈ l → EvT t ((wipe σ ws).set j (some (.int a))) H1 (p a)) (he : ∀ a H1, Ev te ((wipe σ ws).set j (some (.int a))) H1 (.int a)) :
    EvL (tLc (iSeq K tl) (gName j) t te ws) σ H (intV (l.filter p)) := by
  have := el_lcI (g := fun a => a) hx hz hw ht fun a H1 _ _ _ => he a H1
  rw [List.map_id'] at this
  exact this
/-- over a row -/
theorem el_lcR (hx : EvX tl σ H (fun y H1 => ∃ p, y = .ref p ∧ SqA K H1 p (rowV n f))) (hz : n < 100000) (hw : ∀ x, wipe ((wipe σ ws).set j (some x)) ws = wipe σ ws)
    (he : ∀ (v : Int) H1, Ex H H1 → 0 ≤ v → v < n → Ev te ((wipe σ ws).set j (some (.int (f v)))) H1 (.int (g v))) : EvL (tLc (iSeq K tl) (gName j) tYes te ws) σ H (rowV n g) := by
  have hx2 : EvX tl σ H (fun y H1 => ∃ p, y = .ref p ∧ SqA K H1 p ((ran n).map fun v => V.int (f v))) := by
    rw [← rowV_ran]
    exact hx
  have := el_lc (l := ran n) (emb := fun v => V.int (f v)) (f := fun _ => true) (g := fun a => V.int (g a)) (t := tYes) hx2 (by rw [ran_len]; exact hz) hw (fun _ _ _ _ => et_yes) fun a H1 e h _ => he a H1 e (mem_ran.mp h).1 (mem_ran.mp h).2
  rw [filter_yes] at this
  rw [rowV_ran]
  exact this
/-- over range(n) -/
theorem el_lrR (h : EvA ar σ H [.int (n : Int)]) (hz : n ≤ 40000) (hw : ∀ x, wipe ((wipe σ ws).set j (some x)) ws = wipe σ ws)
    (he : ∀ (v : Int) H1, Ex H H1 → 0 ≤ v → v < n → Ev te ((wipe σ ws).set j (some (.int v))) H1 (.int (g v))) : EvL (tLc (iRng1 ar) (gName j) tYes te ws) σ H (rowV n g) := by
  have := el_lr (f := fun _ => true) (g := fun a => V.int (g a)) (t := tYes) h ⟨by omega, by omega⟩ hw (fun _ _ _ _ _ => et_yes) fun a H1 e h0 h1 _ => he a H1 e h0 h1
  rw [filter_yes, Int.toNat_natCast] at this
  rw [rowV_ran]
  exact this
theorem el_lrF (h : EvA ar σ H [.int (n : Int)]) (hz : n ≤ 40000) (hw : ∀ x, wipe ((wipe σ ws).set j (some x)) ws = wipe σ ws)
    (ht : ∀ (v : Int) H1, Ex H H1 → 0 ≤ v → v < n → EvT t ((wipe σ ws).set j (some (.int v))) H1 (p v)) (he : ∀ a H1, Ev te ((wipe σ ws).set j (some (.int a))) H1 (.int a)) : EvL (tLc (iRng1 ar) (gName j) t te ws) σ H (intV ((ran n).filter p)) := by
  have := el_lr (f := p) (g := fun a => V.int a) h ⟨by omega, by omega⟩ hw (fun a H1 e h0 h1 => ht a H1 e h0 h1) fun a H1 _ _ _ _ => he a H1
  rw [Int.toNat_natCast] at this
  exact this
/-! ### slots -/
theorem slt_mono {C dx : Addr} {vs : List (Option V)} (e : Ex H H') (h : Slt H a C dx vs) : Slt H' a C dx vs := h.elim (fun z => .inl ⟨e _ _ z.1, z.2⟩) fun z => .inr ⟨e _ _ z.1, e _ _ z.2⟩
theorem ev_sl {C dx q : Addr} {vs : List (Option V)} {f : Str} {i : Nat} (ha : Ev ta σ H (.ref a)) (h : Slt H a C dx vs) (c : SCls K C) (s1 : Slot1 K C f q i) (l : vs[i]? = some (some v)) : Ev (tSl K ta f) σ H v := fun H1 e Q k =>
  ha H1 e _ fun H2 e2 => ⟨a, C, dx, q, vs, i, v, rfl, slt_mono (e.trans e2) h, c, s1, l, k H2 e2⟩
end
def spSl (K : Frag) (C : Addr) (f : Str) : Sp := fun vs H Q _ => ∃ a dx ws v, vs = [.ref a] ∧ Slt H a C dx ws ∧ ws[sI K C f]? = some (some v) ∧ RetV v H Q
theorem ev_prop {K : Frag} {σ : L2.St} {H : Hp} {ta : TE} {v : V} {a C dx : Addr} {ws : List (Option V)} {f : Str} (ha : Ev ta σ H (.ref a)) (h : Slt H a C dx ws) (l : ws[sI K C f]? = some (some v)) : Ev (tPropSl C (spSl K C f) E0 ta) σ H v := fun H1 e Q k =>
  ha H1 e _ fun H2 e2 => ⟨a, dx, ws, rfl, slt_mono (e.trans e2) h, a, dx, ws, v, rfl, slt_mono (e.trans e2) h, l, fun H3 e3 => k H3 (e2.trans e3)⟩
def sp_Web_first (K : Frag) : Sp := spSl K (gW K) "_first"
/-! Web.first -/
abbrev N_Web_first : List Str := ["self"]
abbrev s_Web_first : Stmt := inClass (top 32) 6
theorem sc_Web_first : FnScope N_Web_first ["self"] (defScope s_Web_first) := ⟨rfl, rfl, rfl, by decide +kernel, rfl, by decide +kernel, by decide +kernel⟩
def t_Web_first (K : Frag) : TS := (tRet (tSl K (tVar 0) "_first"))
section
variable {w : World} {K : Frag} {mg : Str → Option Value} {vs : List V} {H : Hp} {Q : VK} {E : XK}
theorem len_Web_first (h : sp_Web_first K vs H Q E) : vs.length = 1 := by obtain ⟨a, dx, ws, v, rfl, _⟩ := h; rfl
theorem pure_Web_first (T : Txt w K mg) (h : sp_Web_first K vs H Q E) : t_Web_first K (E1 Q) (start N_Web_first vs) H := by
  obtain ⟨a, dx, ws, v, rfl, hs, hv, k⟩ := h
  exact s_ret (ev_sl (ev_var rfl) hs T.sclW (T.sW (memOf 0 rfl)) hv) fun H1 e => k H1 e
end
theorem d_Web_first {P : Program} {w : World} {K : Frag} {mg : Str → Option Value} {base : Heap} (T : Txt w K mg) {f : Addr} {cdv : Value} {A : Around} {outer : List Env} {s : Shared} {H : Hp} {E : XK} (hr : Room 0 (A.deeper (envOfC "Web.first" (defScope s_Web_first) s.heap.objs.size f cdv))) :
    PSs (cxOf CX0 P w K mg base N_Web_first "Web.first" (defScope s_Web_first) f cdv A outer s H E).nox (defBody s_Web_first) (t_Web_first K) := by
  exact (pss_one (ps_ret (SlPe (pv 0))))
theorem ok_Web_first {P : Program} {w : World} {K : Frag} {mg : Str → Option Value} {base : Heap} (T : Txt w K mg) : FnR P w K mg base CX0 1 (pgG K (gW K) "first") (sp_Web_first K) := by
  have F := T.def_ (d := xm_Web_first) (memOf 20 rfl) rfl
  exact fnr_mk (k := 0) F sc_Web_first (fun _ _ _ _ _ _ us hl => match us, hl with | [_], _ => rfl) (fun vs H Q E h => len_Web_first h) (fun cdv A outer s H vs Q E hr h => ⟨t_Web_first K, d_Web_first T hr, pure_Web_first T h⟩)
def tPW_first (K : Frag) (ta : TE) : TE := tPropSl (gW K) (sp_Web_first K) E0 ta
theorem pe_W_first {X : Cx} {j : Nat} {e : Expr} {ta : TE} {pos : Pos} (T : Txt X.w X.K X.mg) (he : PE X e ta) (hr : Room j X.A) (hj : 2 ≤ j) (hb : attributeBase e "first" X.env (eval e X.env) = eval e X.env := by rfl) : PE X (.Attribute e "first" pos) (tPW_first X.K ta) :=
  pe_propX he T.sclW (T.pW (memOf 1 rfl)) (ok_Web_first T) hr hj hb
def sp_Web_second (K : Frag) : Sp := spSl K (gW K) "_second"
/-! Web.second -/
abbrev N_Web_second : List Str := ["self"]
abbrev s_Web_second : Stmt := inClass (top 32) 7
theorem sc_Web_second : FnScope N_Web_second ["self"] (defScope s_Web_second) := ⟨rfl, rfl, rfl, by decide +kernel, rfl, by decide +kernel, by decide +kernel⟩
def t_Web_second (K : Frag) : TS := (tRet (tSl K (tVar 0) "_second"))
section
variable {w : World} {K : Frag} {mg : Str → Option Value} {vs : List V} {H : Hp} {Q : VK} {E : XK}
theorem len_Web_second (h : sp_Web_second K vs H Q E) : vs.length = 1 := by obtain ⟨a, dx, ws, v, rfl, _⟩ := h; rfl
theorem pure_Web_second (T : Txt w K mg) (h : sp_Web_second K vs H Q E) : t_Web_second K (E1 Q) (start N_Web_second vs) H := by
  obtain ⟨a, dx, ws, v, rfl, hs, hv, k⟩ := h
  exact s_ret (ev_sl (ev_var rfl) hs T.sclW (T.sW (memOf 1 rfl)) hv) fun H1 e => k H1 e
end
theorem d_Web_second {P : Program} {w : World} {K : Frag} {mg : Str → Option Value} {base : Heap} (T : Txt w K mg) {f : Addr} {cdv : Value} {A : Around} {outer : List Env} {s : Shared} {H : Hp} {E : XK} (hr : Room 0 (A.deeper (envOfC "Web.second" (defScope s_Web_second) s.heap.objs.size f cdv))) :
    PSs (cxOf CX0 P w K mg base N_Web_second "Web.second" (defScope s_Web_second) f cdv A outer s H E).nox (defBody s_Web_second) (t_Web_second K) := by
  exact (pss_one (ps_ret (SlPe (pv 0))))
theorem ok_Web_second {P : Program} {w : World} {K : Frag} {mg : Str → Option Value} {base : Heap} (T : Txt w K mg) : FnR P w K mg base CX0 1 (pgG K (gW K) "second") (sp_Web_second K) := by
  have F := T.def_ (d := xm_Web_second) (memOf 21 rfl) rfl
  exact fnr_mk (k := 0) F sc_Web_second (fun _ _ _ _ _ _ us hl => match us, hl with | [_], _ => rfl) (fun vs H Q E h => len_Web_second h) (fun cdv A outer s H vs Q E hr h => ⟨t_Web_second K, d_Web_second T hr, pure_Web_second T h⟩)
def tPW_second (K : Frag) (ta : TE) : TE := tPropSl (gW K) (sp_Web_second K) E0 ta
theorem pe_W_second {X : Cx} {j : Nat} {e : Expr} {ta : TE} {pos : Pos} (T : Txt X.w X.K X.mg) (he : PE X e ta) (hr : Room j X.A) (hj : 2 ≤ j) (hb : attributeBase e "second" X.env (eval e X.env) = eval e X.env := by rfl) : PE X (.Attribute e "second" pos) (tPW_second X.K ta) :=
  pe_propX he T.sclW (T.pW (memOf 2 rfl)) (ok_Web_second T) hr hj hb
def sp_Web_marks (K : Frag) : Sp := spSl K (gW K) "_marks"
/-! Web.marks -/
abbrev N_Web_marks : List Str := ["self"]
abbrev s_Web_marks : Stmt := inClass (top 32) 8
theorem sc_Web_marks : FnScope N_Web_marks ["self"] (defScope s_Web_marks) := ⟨rfl, rfl, rfl, by decide +kernel, rfl, by decide +kernel, by decide +kernel⟩
def t_Web_marks (K : Frag) : TS := (tRet (tSl K (tVar 0) "_marks"))
section
variable {w : World} {K : Frag} {mg : Str → Option Value} {vs : List V} {H : Hp} {Q : VK} {E : XK}
theorem len_Web_marks (h : sp_Web_marks K vs H Q E) : vs.length = 1 := by obtain ⟨a, dx, ws, v, rfl, _⟩ := h; rfl
theorem pure_Web_marks (T : Txt w K mg) (h : sp_Web_marks K vs H Q E) : t_Web_marks K (E1 Q) (start N_Web_marks vs) H := by
  obtain ⟨a, dx, ws, v, rfl, hs, hv, k⟩ := h
  exact s_ret (ev_sl (ev_var rfl) hs T.sclW (T.sW (memOf 2 rfl)) hv) fun H1 e => k H1 e
end
theorem d_Web_marks {P : Program} {w : World} {K : Frag} {mg : Str → Option Value} {base : Heap} (T : Txt w K mg) {f : Addr} {cdv : Value} {A : Around} {outer : List Env} {s : Shared} {H : Hp} {E : XK} (hr : Room 0 (A.deeper (envOfC "Web.marks" (defScope s_Web_marks) s.heap.objs.size f cdv))) :
    PSs (cxOf CX0 P w K mg base N_Web_marks "Web.marks" (defScope s_Web_marks) f cdv A outer s H E).nox (defBody s_Web_marks) (t_Web_marks K) := by
  exact (pss_one (ps_ret (SlPe (pv 0))))
theorem ok_Web_marks {P : Program} {w : World} {K : Frag} {mg : Str → Option Value} {base : Heap} (T : Txt w K mg) : FnR P w K mg base CX0 1 (pgG K (gW K) "marks") (sp_Web_marks K) := by
  have F := T.def_ (d := xm_Web_marks) (memOf 22 rfl) rfl
  exact fnr_mk (k := 0) F sc_Web_marks (fun _ _ _ _ _ _ us hl => match us, hl with | [_], _ => rfl) (fun vs H Q E h => len_Web_marks h) (fun cdv A outer s H vs Q E hr h => ⟨t_Web_marks K, d_Web_marks T hr, pure_Web_marks T h⟩)
def tPW_marks (K : Frag) (ta : TE) : TE := tPropSl (gW K) (sp_Web_marks K) E0 ta
theorem pe_W_marks {X : Cx} {j : Nat} {e : Expr} {ta : TE} {pos : Pos} (T : Txt X.w X.K X.mg) (he : PE X e ta) (hr : Room j X.A) (hj : 2 ≤ j) (hb : attributeBase e "marks" X.env (eval e X.env) = eval e X.env := by rfl) : PE X (.Attribute e "marks" pos) (tPW_marks X.K ta) :=
  pe_propX he T.sclW (T.pW (memOf 3 rfl)) (ok_Web_marks T) hr hj hb
def sp_Web_dues (K : Frag) : Sp := spSl K (gW K) "_dues"
/-! Web.dues -/
abbrev N_Web_dues : List Str := ["self"]
abbrev s_Web_dues : Stmt := inClass (top 32) 9
theorem sc_Web_dues : FnScope N_Web_dues ["self"] (defScope s_Web_dues) := ⟨rfl, rfl, rfl, by decide +kernel, rfl, by decide +kernel, by decide +kernel⟩
def t_Web_dues (K : Frag) : TS := (tRet (tSl K (tVar 0) "_dues"))
section
variable {w : World} {K : Frag} {mg : Str → Option Value} {vs : List V} {H : Hp} {Q : VK} {E : XK}
theorem len_Web_dues (h : sp_Web_dues K vs H Q E) : vs.length = 1 := by obtain ⟨a, dx, ws, v, rfl, _⟩ := h; rfl
theorem pure_Web_dues (T : Txt w K mg) (h : sp_Web_dues K vs H Q E) : t_Web_dues K (E1 Q) (start N_Web_dues vs) H := by
  obtain ⟨a, dx, ws, v, rfl, hs, hv, k⟩ := h
  exact s_ret (ev_sl (ev_var rfl) hs T.sclW (T.sW (memOf 3 rfl)) hv) fun H1 e => k H1 e
end
theorem d_Web_dues {P : Program} {w : World} {K : Frag} {mg : Str → Option Value} {base : Heap} (T : Txt w K mg) {f : Addr} {cdv : Value} {A : Around} {outer : List Env} {s : Shared} {H : Hp} {E : XK} (hr : Room 0 (A.deeper (envOfC "Web.dues" (defScope s_Web_dues) s.heap.objs.size f cdv))) :
    PSs (cxOf CX0 P w K mg base N_Web_dues "Web.dues" (defScope s_Web_dues) f cdv A outer s H E).nox (defBody s_Web_dues) (t_Web_dues K) := by
  exact (pss_one (ps_ret (SlPe (pv 0))))
theorem ok_Web_dues {P : Program} {w : World} {K : Frag} {mg : Str → Option Value} {base : Heap} (T : Txt w K mg) : FnR P w K mg base CX0 1 (pgG K (gW K) "dues") (sp_Web_dues K) := by
  have F := T.def_ (d := xm_Web_dues) (memOf 23 rfl) rfl
  exact fnr_mk (k := 0) F sc_Web_dues (fun _ _ _ _ _ _ us hl => match us, hl with | [_], _ => rfl) (fun vs H Q E h => len_Web_dues h) (fun cdv A outer s H vs Q E hr h => ⟨t_Web_dues K, d_Web_dues T hr, pure_Web_dues T h⟩)
def tPW_dues (K : Frag) (ta : TE) : TE := tPropSl (gW K) (sp_Web_dues K) E0 ta
theorem pe_W_dues {X : Cx} {j : Nat} {e : Expr} {ta : TE} {pos : Pos} (T : Txt X.w X.K X.mg) (he : PE X e ta) (hr : Room j X.A) (hj : 2 ≤ j) (hb : attributeBase e "dues" X.env (eval e X.env) = eval e X.env := by rfl) : PE X (.Attribute e "dues" pos) (tPW_dues X.K ta) :=
  pe_propX he T.sclW (T.pW (memOf 4 rfl)) (ok_Web_dues T) hr hj hb
def sp_Web_moving (K : Frag) : Sp := spSl K (gW K) "_moving"
/-! Web.moving -/
abbrev N_Web_moving : List Str := ["self"]
abbrev s_Web_moving : Stmt := inClass (top 32) 11
theorem sc_Web_moving : FnScope N_Web_moving ["self"] (defScope s_Web_moving) := ⟨rfl, rfl, rfl, by decide +kernel, rfl, by decide +kernel, by decide +kernel⟩
def t_Web_moving (K : Frag) : TS := (tRet (tSl K (tVar 0) "_moving"))
section
variable {w : World} {K : Frag} {mg : Str → Option Value} {vs : List V} {H : Hp} {Q : VK} {E : XK}
theorem len_Web_moving (h : sp_Web_moving K vs H Q E) : vs.length = 1 := by obtain ⟨a, dx, ws, v, rfl, _⟩ := h; rfl
theorem pure_Web_moving (T : Txt w K mg) (h : sp_Web_moving K vs H Q E) : t_Web_moving K (E1 Q) (start N_Web_moving vs) H := by
  obtain ⟨a, dx, ws, v, rfl, hs, hv, k⟩ := h
  exact s_ret (ev_sl (ev_var rfl) hs T.sclW (T.sW (memOf 5 rfl)) hv) fun H1 e => k H1 e
end
theorem d_Web_moving {P : Program} {w : World} {K : Frag} {mg : Str → Option Value} {base : Heap} (T : Txt w K mg) {f : Addr} {cdv : Value} {A : Around} {outer : List Env} {s : Shared} {H : Hp} {E : XK} (hr : Room 0 (A.deeper (envOfC "Web.moving" (defScope s_Web_moving) s.heap.objs.size f cdv))) :
    PSs (cxOf CX0 P w K mg base N_Web_moving "Web.moving" (defScope s_Web_moving) f cdv A outer s H E).nox (defBody s_Web_moving) (t_Web_moving K) := by
  exact (pss_one (ps_ret (SlPe (pv 0))))
theorem ok_Web_moving {P : Program} {w : World} {K : Frag} {mg : Str → Option Value} {base : Heap} (T : Txt w K mg) : FnR P w K mg base CX0 1 (pgG K (gW K) "moving") (sp_Web_moving K) := by
  have F := T.def_ (d := xm_Web_moving) (memOf 24 rfl) rfl
  exact fnr_mk (k := 0) F sc_Web_moving (fun _ _ _ _ _ _ us hl => match us, hl with | [_], _ => rfl) (fun vs H Q E h => len_Web_moving h) (fun cdv A outer s H vs Q E hr h => ⟨t_Web_moving K, d_Web_moving T hr, pure_Web_moving T h⟩)
def tPW_moving (K : Frag) (ta : TE) : TE := tPropSl (gW K) (sp_Web_moving K) E0 ta
theorem pe_W_moving {X : Cx} {j : Nat} {e : Expr} {ta : TE} {pos : Pos} (T : Txt X.w X.K X.mg) (he : PE X e ta) (hr : Room j X.A) (hj : 2 ≤ j) (hb : attributeBase e "moving" X.env (eval e X.env) = eval e X.env := by rfl) : PE X (.Attribute e "moving" pos) (tPW_moving X.K ta) :=
  pe_propX he T.sclW (T.pW (memOf 5 rfl)) (ok_Web_moving T) hr hj hb

def sp_Web_size (K : Frag) : Sp := fun vs H Q _ => ∃ a dx ws p xs, vs = [.ref a] ∧ Slt H a (gW K) dx ws ∧ ws[sI K (gW K) "_marks"]? = some (some (.ref p)) ∧ SqA K H p xs ∧ RetV (.int (xs.length : Int)) H Q
/-! Web.size -/
abbrev N_Web_size : List Str := ["self"]
abbrev s_Web_size : Stmt := inClass (top 32) 5
theorem sc_Web_size : FnScope N_Web_size ["self"] (defScope s_Web_size) := ⟨rfl, rfl, rfl, by decide +kernel, rfl, by decide +kernel, by decide +kernel⟩
def t_Web_size (K : Frag) : TS := (tRet (tCB (rLenS K) (tCons (tSl K (tVar 0) "_marks") tNil)))
section
variable {w : World} {K : Frag} {mg : Str → Option Value} {vs : List V} {H : Hp} {Q : VK} {E : XK}
theorem len_Web_size (h : sp_Web_size K vs H Q E) : vs.length = 1 := by obtain ⟨a, dx, ws, p, xs, rfl, _⟩ := h; rfl
theorem pure_Web_size (T : Txt w K mg) (h : sp_Web_size K vs H Q E) : t_Web_size K (E1 Q) (start N_Web_size vs) H := by
  obtain ⟨a, dx, ws, p, xs, rfl, hs, hv, hx, k⟩ := h
  exact s_ret (ev_len' (ev_sl (ev_var rfl) hs T.sclW (T.sW (memOf 2 rfl)) hv) hx) fun H1 e => k H1 e
end
theorem d_Web_size {P : Program} {w : World} {K : Frag} {mg : Str → Option Value} {base : Heap} (T : Txt w K mg) {f : Addr} {cdv : Value} {A : Around} {outer : List Env} {s : Shared} {H : Hp} {E : XK} (hr : Room 0 (A.deeper (envOfC "Web.size" (defScope s_Web_size) s.heap.objs.size f cdv))) :
    PSs (cxOf CX0 P w K mg base N_Web_size "Web.size" (defScope s_Web_size) f cdv A outer s H E).nox (defBody s_Web_size) (t_Web_size K) := by
  exact (pss_one (ps_ret (pe_callB call_len_seq (by rfl) (T.free (memOf 0 rfl)) b_len (pa_cons (SlPe (pv 0)) pa_nil))))
theorem ok_Web_size {P : Program} {w : World} {K : Frag} {mg : Str → Option Value} {base : Heap} (T : Txt w K mg) : FnR P w K mg base CX0 1 (pgG K (gW K) "size") (sp_Web_size K) := by
  have F := T.def_ (d := xm_Web_size) (memOf 19 rfl) rfl
  exact fnr_mk (k := 0) F sc_Web_size (fun _ _ _ _ _ _ us hl => match us, hl with | [_], _ => rfl) (fun vs H Q E h => len_Web_size h) (fun cdv A outer s H vs Q E hr h => ⟨t_Web_size K, d_Web_size T hr, pure_Web_size T h⟩)
def tPW_size (K : Frag) (ta : TE) : TE := tPropSl (gW K) (sp_Web_size K) E0 ta
theorem pe_W_size {X : Cx} {j : Nat} {e : Expr} {ta : TE} {pos : Pos} (T : Txt X.w X.K X.mg) (he : PE X e ta) (hr : Room j X.A) (hj : 2 ≤ j) (hb : attributeBase e "size" X.env (eval e X.env) = eval e X.env := by rfl) : PE X (.Attribute e "size" pos) (tPW_size X.K ta) :=
  pe_propX he T.sclW (T.pW (memOf 0 rfl)) (ok_Web_size T) hr hj hb
def sp_CallPaper_web (K : Frag) : Sp := spSl K (gP K) "_web"
/-! CallPaper.web -/
abbrev N_CallPaper_web : List Str := ["self"]
abbrev s_CallPaper_web : Stmt := inClass (top 65) 3
theorem sc_CallPaper_web : FnScope N_CallPaper_web ["self"] (defScope s_CallPaper_web) := ⟨rfl, rfl, rfl, by decide +kernel, rfl, by decide +kernel, by decide +kernel⟩
def t_CallPaper_web (K : Frag) : TS := (tRet (tSl K (tVar 0) "_web"))
section
variable {w : World} {K : Frag} {mg : Str → Option Value} {vs : List V} {H : Hp} {Q : VK} {E : XK}
theorem len_CallPaper_web (h : sp_CallPaper_web K vs H Q E) : vs.length = 1 := by obtain ⟨a, dx, ws, v, rfl, _⟩ := h; rfl
theorem pure_CallPaper_web (T : Txt w K mg) (h : sp_CallPaper_web K vs H Q E) : t_CallPaper_web K (E1 Q) (start N_CallPaper_web vs) H := by
  obtain ⟨a, dx, ws, v, rfl, hs, hv, k⟩ := h
  exact s_ret (ev_sl (ev_var rfl) hs T.sclP (T.sP (memOf 0 rfl)) hv) fun H1 e => k H1 e
end
theorem d_CallPaper_web {P : Program} {w : World} {K : Frag} {mg : Str → Option Value} {base : Heap} (T : Txt w K mg) {f : Addr} {cdv : Value} {A : Around} {outer : List Env} {s : Shared} {H : Hp} {E : XK} (hr : Room 0 (A.deeper (envOfC "CallPaper.web" (defScope s_CallPaper_web) s.heap.objs.size f cdv))) :
    PSs (cxOf CX0 P w K mg base N_CallPaper_web "CallPaper.web" (defScope s_CallPaper_web) f cdv A outer s H E).nox (defBody s_CallPaper_web) (t_CallPaper_web K) := by
  exact (pss_one (ps_ret (SlPe (pv 0))))
theorem ok_CallPaper_web {P : Program} {w : World} {K : Frag} {mg : Str → Option Value} {base : Heap} (T : Txt w K mg) : FnR P w K mg base CX0 1 (pgG K (gP K) "web") (sp_CallPaper_web K) := by
  have F := T.def_ (d := xm_CallPaper_web) (memOf 50 rfl) rfl
  exact fnr_mk (k := 0) F sc_CallPaper_web (fun _ _ _ _ _ _ us hl => match us, hl with | [_], _ => rfl) (fun vs H Q E h => len_CallPaper_web h) (fun cdv A outer s H vs Q E hr h => ⟨t_CallPaper_web K, d_CallPaper_web T hr, pure_CallPaper_web T h⟩)
def tPP_web (K : Frag) (ta : TE) : TE := tPropSl (gP K) (sp_CallPaper_web K) E0 ta
theorem pe_P_web {X : Cx} {j : Nat} {e : Expr} {ta : TE} {pos : Pos} (T : Txt X.w X.K X.mg) (he : PE X e ta) (hr : Room j X.A) (hj : 2 ≤ j) (hb : attributeBase e "web" X.env (eval e X.env) = eval e X.env := by rfl) : PE X (.Attribute e "web" pos) (tPP_web X.K ta) :=
  pe_propX he T.sclP (T.pP (memOf 0 rfl)) (ok_CallPaper_web T) hr hj hb
def sp_CallPaper_chips (K : Frag) : Sp := spSl K (gP K) "_chips"
/-! CallPaper.chips -/
abbrev N_CallPaper_chips : List Str := ["self"]
abbrev s_CallPaper_chips : Stmt := inClass (top 65) 4
theorem sc_CallPaper_chips : FnScope N_CallPaper_chips ["self"] (defScope s_CallPaper_chips) := ⟨rfl, rfl, rfl, by decide +kernel, rfl, by decide +kernel, by decide +kernel⟩
def t_CallPaper_chips (K : Frag) : TS := (tRet (tSl K (tVar 0) "_chips"))
section
variable {w : World} {K : Frag} {mg : Str → Option Value} {vs : List V} {H : Hp} {Q : VK} {E : XK}
theorem len_CallPaper_chips (h : sp_CallPaper_chips K vs H Q E) : vs.length = 1 := by obtain ⟨a, dx, ws, v, rfl, _⟩ := h; rfl
theorem pure_CallPaper_chips (T : Txt w K mg) (h : sp_CallPaper_chips K vs H Q E) : t_CallPaper_chips K (E1 Q) (start N_CallPaper_chips vs) H := by
  obtain ⟨a, dx, ws, v, rfl, hs, hv, k⟩ := h
  exact s_ret (ev_sl (ev_var rfl) hs T.sclP (T.sP (memOf 1 rfl)) hv) fun H1 e => k H1 e
end
theorem d_CallPaper_chips {P : Program} {w : World} {K : Frag} {mg : Str → Option Value} {base : Heap} (T : Txt w K mg) {f : Addr} {cdv : Value} {A : Around} {outer : List Env} {s : Shared} {H : Hp} {E : XK} (hr : Room 0 (A.deeper (envOfC "CallPaper.chips" (defScope s_CallPaper_chips) s.heap.objs.size f cdv))) :
    PSs (cxOf CX0 P w K mg base N_CallPaper_chips "CallPaper.chips" (defScope s_CallPaper_chips) f cdv A outer s H E).nox (defBody s_CallPaper_chips) (t_CallPaper_chips K) := by
  exact (pss_one (ps_ret (SlPe (pv 0))))
theorem ok_CallPaper_chips {P : Program} {w : World} {K : Frag} {mg : Str → Option Value} {base : Heap} (T : Txt w K mg) : FnR P w K mg base CX0 1 (pgG K (gP K) "chips") (sp_CallPaper_chips K) := by
  have F := T.def_ (d := xm_CallPaper_chips) (memOf 51 rfl) rfl
  exact fnr_mk (k := 0) F sc_CallPaper_chips (fun _ _ _ _ _ _ us hl => match us, hl with | [_], _ => rfl) (fun vs H Q E h => len_CallPaper_chips h) (fun cdv A outer s H vs Q E hr h => ⟨t_CallPaper_chips K, d_CallPaper_chips T hr, pure_CallPaper_chips T h⟩)
def tPP_chips (K : Frag) (ta : TE) : TE := tPropSl (gP K) (sp_CallPaper_chips K) E0 ta
theorem pe_P_chips {X : Cx} {j : Nat} {e : Expr} {ta : TE} {pos : Pos} (T : Txt X.w X.K X.mg) (he : PE X e ta) (hr : Room j X.A) (hj : 2 ≤ j) (hb : attributeBase e "chips" X.env (eval e X.env) = eval e X.env := by rfl) : PE X (.Attribute e "chips" pos) (tPP_chips X.K ta) :=
  pe_propX he T.sclP (T.pP (memOf 1 rfl)) (ok_CallPaper_chips T) hr hj hb
def sp_CallPaper_calls (K : Frag) : Sp := spSl K (gP K) "_calls"
/-! CallPaper.calls -/
abbrev N_CallPaper_calls : List Str := ["self"]
abbrev s_CallPaper_calls : Stmt := inClass (top 65) 5
theorem sc_CallPaper_calls : FnScope N_CallPaper_calls ["self"] (defScope s_CallPaper_calls) := ⟨rfl, rfl, rfl, by decide +kernel, rfl, by decide +kernel, by decide +kernel⟩
def t_CallPaper_calls (K : Frag) : TS := (tRet (tSl K (tVar 0) "_calls"))
section
variable {w : World} {K : Frag} {mg : Str → Option Value} {vs : List V} {H : Hp} {Q : VK} {E : XK}
theorem len_CallPaper_calls (h : sp_CallPaper_calls K vs H Q E) : vs.length = 1 := by obtain ⟨a, dx, ws, v, rfl, _⟩ := h; rfl
theorem pure_CallPaper_calls (T : Txt w K mg) (h : sp_CallPaper_calls K vs H Q E) : t_CallPaper_calls K (E1 Q) (start N_CallPaper_calls vs) H := by
  obtain ⟨a, dx, ws, v, rfl, hs, hv, k⟩ := h
  exact s_ret (ev_sl (ev_var rfl) hs T.sclP (T.sP (memOf 2 rfl)) hv) fun H1 e => k H1 e
end
theorem d_CallPaper_calls {P : Program} {w : World} {K : Frag} {mg : Str → Option Value} {base : Heap} (T : Txt w K mg) {f : Addr} {cdv : Value} {A : Around} {outer : List Env} {s : Shared} {H : Hp} {E : XK} (hr : Room 0 (A.deeper (envOfC "CallPaper.calls" (defScope s_CallPaper_calls) s.heap.objs.size f cdv))) :
    PSs (cxOf CX0 P w K mg base N_CallPaper_calls "CallPaper.calls" (defScope s_CallPaper_calls) f cdv A outer s H E).nox (defBody s_CallPaper_calls) (t_CallPaper_calls K) := by
  exact (pss_one (ps_ret (SlPe (pv 0))))
theorem ok_CallPaper_calls {P : Program} {w : World} {K : Frag} {mg : Str → Option Value} {base : Heap} (T : Txt w K mg) : FnR P w K mg base CX0 1 (pgG K (gP K) "calls") (sp_CallPaper_calls K) := by
  have F := T.def_ (d := xm_CallPaper_calls) (memOf 52 rfl) rfl
  exact fnr_mk (k := 0) F sc_CallPaper_calls (fun _ _ _ _ _ _ us hl => match us, hl with | [_], _ => rfl) (fun vs H Q E h => len_CallPaper_calls h) (fun cdv A outer s H vs Q E hr h => ⟨t_CallPaper_calls K, d_CallPaper_calls T hr, pure_CallPaper_calls T h⟩)
def tPP_calls (K : Frag) (ta : TE) : TE := tPropSl (gP K) (sp_CallPaper_calls K) E0 ta
theorem pe_P_calls {X : Cx} {j : Nat} {e : Expr} {ta : TE} {pos : Pos} (T : Txt X.w X.K X.mg) (he : PE X e ta) (hr : Room j X.A) (hj : 2 ≤ j) (hb : attributeBase e "calls" X.env (eval e X.env) = eval e X.env := by rfl) : PE X (.Attribute e "calls" pos) (tPP_calls X.K ta) :=
  pe_propX he T.sclP (T.pP (memOf 2 rfl)) (ok_CallPaper_calls T) hr hj hb
def sp_CallPaper_row (K : Frag) : Sp := spSl K (gP K) "_row"
/-! CallPaper.row -/
abbrev N_CallPaper_row : List Str := ["self"]
abbrev s_CallPaper_row : Stmt := inClass (top 65) 6
theorem sc_CallPaper_row : FnScope N_CallPaper_row ["self"] (defScope s_CallPaper_row) := ⟨rfl, rfl, rfl, by decide +kernel, rfl, by decide +kernel, by decide +kernel⟩
def t_CallPaper_row (K : Frag) : TS := (tRet (tSl K (tVar 0) "_row"))
section
variable {w : World} {K : Frag} {mg : Str → Option Value} {vs : List V} {H : Hp} {Q : VK} {E : XK}
theorem len_CallPaper_row (h : sp_CallPaper_row K vs H Q E) : vs.length = 1 := by obtain ⟨a, dx, ws, v, rfl, _⟩ := h; rfl
theorem pure_CallPaper_row (T : Txt w K mg) (h : sp_CallPaper_row K vs H Q E) : t_CallPaper_row K (E1 Q) (start N_CallPaper_row vs) H := by
  obtain ⟨a, dx, ws, v, rfl, hs, hv, k⟩ := h
  exact s_ret (ev_sl (ev_var rfl) hs T.sclP (T.sP (memOf 3 rfl)) hv) fun H1 e => k H1 e
end
theorem d_CallPaper_row {P : Program} {w : World} {K : Frag} {mg : Str → Option Value} {base : Heap} (T : Txt w K mg) {f : Addr} {cdv : Value} {A : Around} {outer : List Env} {s : Shared} {H : Hp} {E : XK} (hr : Room 0 (A.deeper (envOfC "CallPaper.row" (defScope s_CallPaper_row) s.heap.objs.size f cdv))) :
    PSs (cxOf CX0 P w K mg base N_CallPaper_row "CallPaper.row" (defScope s_CallPaper_row) f cdv A outer s H E).nox (defBody s_CallPaper_row) (t_CallPaper_row K) := by
  exact (pss_one (ps_ret (SlPe (pv 0))))
theorem ok_CallPaper_row {P : Program} {w : World} {K : Frag} {mg : Str → Option Value} {base : Heap} (T : Txt w K mg) : FnR P w K mg base CX0 1 (pgG K (gP K) "row") (sp_CallPaper_row K) := by
  have F := T.def_ (d := xm_CallPaper_row) (memOf 53 rfl) rfl
  exact fnr_mk (k := 0) F sc_CallPaper_row (fun _ _ _ _ _ _ us hl => match us, hl with | [_], _ => rfl) (fun vs H Q E h => len_CallPaper_row h) (fun cdv A outer s H vs Q E hr h => ⟨t_CallPaper_row K, d_CallPaper_row T hr, pure_CallPaper_row T h⟩)
def tPP_row (K : Frag) (ta : TE) : TE := tPropSl (gP K) (sp_CallPaper_row K) E0 ta
theorem pe_P_row {X : Cx} {j : Nat} {e : Expr} {ta : TE} {pos : Pos} (T : Txt X.w X.K X.mg) (he : PE X e ta) (hr : Room j X.A) (hj : 2 ≤ j) (hb : attributeBase e "row" X.env (eval e X.env) = eval e X.env := by rfl) : PE X (.Attribute e "row" pos) (tPP_row X.K ta) :=
  pe_propX he T.sclP (T.pP (memOf 3 rfl)) (ok_CallPaper_row T) hr hj hb
def sp_CallPaper_ranks (K : Frag) : Sp := spSl K (gP K) "_ranks"
/-! CallPaper.ranks -/
abbrev N_CallPaper_ranks : List Str := ["self"]
abbrev s_CallPaper_ranks : Stmt := inClass (top 65) 7
theorem sc_CallPaper_ranks : FnScope N_CallPaper_ranks ["self"] (defScope s_CallPaper_ranks) := ⟨rfl, rfl, rfl, by decide +kernel, rfl, by decide +kernel, by decide +kernel⟩
def t_CallPaper_ranks (K : Frag) : TS := (tRet (tSl K (tVar 0) "_ranks"))
section
variable {w : World} {K : Frag} {mg : Str → Option Value} {vs : List V} {H : Hp} {Q : VK} {E : XK}
theorem len_CallPaper_ranks (h : sp_CallPaper_ranks K vs H Q E) : vs.length = 1 := by obtain ⟨a, dx, ws, v, rfl, _⟩ := h; rfl
theorem pure_CallPaper_ranks (T : Txt w K mg) (h : sp_CallPaper_ranks K vs H Q E) : t_CallPaper_ranks K (E1 Q) (start N_CallPaper_ranks vs) H := by
  obtain ⟨a, dx, ws, v, rfl, hs, hv, k⟩ := h
  exact s_ret (ev_sl (ev_var rfl) hs T.sclP (T.sP (memOf 4 rfl)) hv) fun H1 e => k H1 e
end
theorem d_CallPaper_ranks {P : Program} {w : World} {K : Frag} {mg : Str → Option Value} {base : Heap} (T : Txt w K mg) {f : Addr} {cdv : Value} {A : Around} {outer : List Env} {s : Shared} {H : Hp} {E : XK} (hr : Room 0 (A.deeper (envOfC "CallPaper.ranks" (defScope s_CallPaper_ranks) s.heap.objs.size f cdv))) :
    PSs (cxOf CX0 P w K mg base N_CallPaper_ranks "CallPaper.ranks" (defScope s_CallPaper_ranks) f cdv A outer s H E).nox (defBody s_CallPaper_ranks) (t_CallPaper_ranks K) := by
  exact (pss_one (ps_ret (SlPe (pv 0))))
theorem ok_CallPaper_ranks {P : Program} {w : World} {K : Frag} {mg : Str → Option Value} {base : Heap} (T : Txt w K mg) : FnR P w K mg base CX0 1 (pgG K (gP K) "ranks") (sp_CallPaper_ranks K) := by
  have F := T.def_ (d := xm_CallPaper_ranks) (memOf 54 rfl) rfl
  exact fnr_mk (k := 0) F sc_CallPaper_ranks (fun _ _ _ _ _ _ us hl => match us, hl with | [_], _ => rfl) (fun vs H Q E h => len_CallPaper_ranks h) (fun cdv A outer s H vs Q E hr h => ⟨t_CallPaper_ranks K, d_CallPaper_ranks T hr, pure_CallPaper_ranks T h⟩)
def tPP_ranks (K : Frag) (ta : TE) : TE := tPropSl (gP K) (sp_CallPaper_ranks K) E0 ta
theorem pe_P_ranks {X : Cx} {j : Nat} {e : Expr} {ta : TE} {pos : Pos} (T : Txt X.w X.K X.mg) (he : PE X e ta) (hr : Room j X.A) (hj : 2 ≤ j) (hb : attributeBase e "ranks" X.env (eval e X.env) = eval e X.env := by rfl) : PE X (.Attribute e "ranks" pos) (tPP_ranks X.K ta) :=
  pe_propX he T.sclP (T.pP (memOf 4 rfl)) (ok_CallPaper_ranks T) hr hj hb
def sp_CallPaper_counts (K : Frag) : Sp := spSl K (gP K) "_counts"
/-! CallPaper.counts -/
abbrev N_CallPaper_counts : List Str := ["self"]
abbrev s_CallPaper_counts : Stmt := inClass (top 65) 8
theorem sc_CallPaper_counts : FnScope N_CallPaper_counts ["self"] (defScope s_CallPaper_counts) := ⟨rfl, rfl, rfl, by decide +kernel, rfl, by decide +kernel, by decide +kernel⟩
def t_CallPaper_counts (K : Frag) : TS := (tRet (tSl K (tVar 0) "_counts"))
section
variable {w : World} {K : Frag} {mg : Str → Option Value} {vs : List V} {H : Hp} {Q : VK} {E : XK}
theorem len_CallPaper_counts (h : sp_CallPaper_counts K vs H Q E) : vs.length = 1 := by obtain ⟨a, dx, ws, v, rfl, _⟩ := h; rfl
theorem pure_CallPaper_counts (T : Txt w K mg) (h : sp_CallPaper_counts K vs H Q E) : t_CallPaper_counts K (E1 Q) (start N_CallPaper_counts vs) H := by
  obtain ⟨a, dx, ws, v, rfl, hs, hv, k⟩ := h
  exact s_ret (ev_sl (ev_var rfl) hs T.sclP (T.sP (memOf 5 rfl)) hv) fun H1 e => k H1 e
end
theorem d_CallPaper_counts {P : Program} {w : World} {K : Frag} {mg : Str → Option Value} {base : Heap} (T : Txt w K mg) {f : Addr} {cdv : Value} {A : Around} {outer : List Env} {s : Shared} {H : Hp} {E : XK} (hr : Room 0 (A.deeper (envOfC "CallPaper.counts" (defScope s_CallPaper_counts) s.heap.objs.size f cdv))) :
    PSs (cxOf CX0 P w K mg base N_CallPaper_counts "CallPaper.counts" (defScope s_CallPaper_counts) f cdv A outer s H E).nox (defBody s_CallPaper_counts) (t_CallPaper_counts K) := by
  exact (pss_one (ps_ret (SlPe (pv 0))))
theorem ok_CallPaper_counts {P : Program} {w : World} {K : Frag} {mg : Str → Option Value} {base : Heap} (T : Txt w K mg) : FnR P w K mg base CX0 1 (pgG K (gP K) "counts") (sp_CallPaper_counts K) := by
  have F := T.def_ (d := xm_CallPaper_counts) (memOf 55 rfl) rfl
  exact fnr_mk (k := 0) F sc_CallPaper_counts (fun _ _ _ _ _ _ us hl => match us, hl with | [_], _ => rfl) (fun vs H Q E h => len_CallPaper_counts h) (fun cdv A outer s H vs Q E hr h => ⟨t_CallPaper_counts K, d_CallPaper_counts T hr, pure_CallPaper_counts T h⟩)
def tPP_counts (K : Frag) (ta : TE) : TE := tPropSl (gP K) (sp_CallPaper_counts K) E0 ta
theorem pe_P_counts {X : Cx} {j : Nat} {e : Expr} {ta : TE} {pos : Pos} (T : Txt X.w X.K X.mg) (he : PE X e ta) (hr : Room j X.A) (hj : 2 ≤ j) (hb : attributeBase e "counts" X.env (eval e X.env) = eval e X.env := by rfl) : PE X (.Attribute e "counts" pos) (tPP_counts X.K ta) :=
  pe_propX he T.sclP (T.pP (memOf 5 rfl)) (ok_CallPaper_counts T) hr hj hb

/-! ### a web as it stands -/
structure WA where
  dx : Addr
  ws : List (Option V)
  rf : Addr
  rs : Addr
  rm : Addr
  rd : Addr
  rv : Addr
  ff : Int → Addr
  fs : Int → Addr
def DuesT (K : Frag) (H : Hp) (a : Addr) (n : Nat) (d : Int → Due) : Prop := ∃ g : Int → V, SqT K H a ((ran n).map g) ∧ ∀ v : Int, 0 ≤ v → v < n → DueV K H (d v) (g v)
structure WebAt (K : Frag) (H : Hp) (a : Addr) (W : Wb) (A : WA) : Prop where
  ok : W.Ok
  n60 : W.n ≤ 60
  sl : Slt H a (gW K) A.dx A.ws
  qf : A.ws[sI K (gW K) "_first"]? = some (some (.ref A.rf))
  qs : A.ws[sI K (gW K) "_second"]? = some (some (.ref A.rs))
  qm : A.ws[sI K (gW K) "_marks"]? = some (some (.ref A.rm))
  qd : A.ws[sI K (gW K) "_dues"]? = some (some (.ref A.rd))
  qv : A.ws[sI K (gW K) "_moving"]? = some (some (.ref A.rv))
  hfT : SqT K H A.rf ((ran W.n).map fun v => V.ref (A.ff v))
  hsT : SqT K H A.rs ((ran W.n).map fun v => V.ref (A.fs v))
  hmT : SqT K H A.rm (rowV W.n W.mark)
  hdT : DuesT K H A.rd W.n W.due
  hvT : SqT K H A.rv (intV ((ran W.n).filter W.mov))
  ffT : ∀ v : Int, 0 ≤ v → v < W.n → SqT K H (A.ff v) (intV (W.F v)) ∧ (W.F v).length ≤ 60 ∧ (W.F v).Pairwise (· < ·)
  fsT : ∀ v : Int, 0 ≤ v → v < W.n → SqT K H (A.fs v) (intV (W.S v)) ∧ (W.S v).length ≤ 60 ∧ (W.S v).Pairwise (· < ·)
section
variable {K : Frag} {H : Hp} {a : Addr} {W : Wb} {A : WA} (h : WebAt K H a W A)
include h
theorem WebAt.hf : SqA K H A.rf ((ran W.n).map fun v => V.ref (A.ff v)) := .t h.hfT
theorem WebAt.hs : SqA K H A.rs ((ran W.n).map fun v => V.ref (A.fs v)) := .t h.hsT
theorem WebAt.hm : SqA K H A.rm (rowV W.n W.mark) := .t h.hmT
theorem WebAt.hd : DuesV K H A.rd W.n W.due := by
  obtain ⟨g, h1, h2⟩ := h.hdT
  exact ⟨g, .t h1, h2⟩
theorem WebAt.hv : SqA K H A.rv (intV ((ran W.n).filter W.mov)) := .t h.hvT
theorem WebAt.ff : ∀ v : Int, 0 ≤ v → v < W.n → SqA K H (A.ff v) (intV (W.F v)) ∧ (W.F v).length ≤ 60 ∧ (W.F v).Pairwise (· < ·) := fun v a b => ⟨.t (h.ffT v a b).1, (h.ffT v a b).2⟩
theorem WebAt.fs : ∀ v : Int, 0 ≤ v → v < W.n → SqA K H (A.fs v) (intV (W.S v)) ∧ (W.S v).length ≤ 60 ∧ (W.S v).Pairwise (· < ·) := fun v a b => ⟨.t (h.fsT v a b).1, (h.fsT v a b).2⟩
end
theorem WebAt.mono {K : Frag} {H H' : Hp} {a : Addr} {W : Wb} {A : WA} (e : Ex H H') (h : WebAt K H a W A) : WebAt K H' a W A :=
  ⟨h.ok, h.n60, slt_mono e h.sl, h.qf, h.qs, h.qm, h.qd, h.qv, ex_t e h.hfT, ex_t e h.hsT, ex_t e h.hmT, (by
    obtain ⟨g, h1, h2⟩ := h.hdT
    exact ⟨g, ex_t e h1, fun v a b => (h2 v a b).mono e⟩), ex_t e h.hvT, fun v a b => ⟨ex_t e (h.ffT v a b).1, (h.ffT v a b).2⟩, fun v a b => ⟨ex_t e (h.fsT v a b).1, (h.fsT v a b).2⟩⟩
section
variable {K : Frag} {σ : L2.St} {H : Hp} {ta tb : TE} {a : Addr} {W : Wb} {A : WA} {v : Int} (ha : Ev ta σ H (.ref a)) (h : WebAt K H a W A)
include ha h
theorem ev_Wsize : Ev (tPW_size K ta) σ H (.int (W.n : Int)) := fun H1 e Q k =>
  ha H1 e _ fun H2 e2 => ⟨a, A.dx, A.ws, rfl, slt_mono (e.trans e2) h.sl, a, A.dx, A.ws, A.rm, rowV W.n W.mark, rfl, slt_mono (e.trans e2) h.sl, h.qm, h.hm.mono (e.trans e2), fun H3 e3 => by
    rw [rowV_len]
    exact k H3 (e2.trans e3)⟩
theorem ev_Wdues : Ev (tPW_dues K ta) σ H (.ref A.rd) := ev_prop ha h.sl h.qd
theorem ev_Wmoving : Ev (tPW_moving K ta) σ H (.ref A.rv) := ev_prop ha h.sl h.qv
theorem ev_Wff (hb : Ev tb σ H (.int v)) (h0 : 0 ≤ v) (h1 : v < W.n) : Ev (tOp (rIx K) (tPW_first K ta) tb) σ H (.ref (A.ff v)) := ev_ix (ev_prop ha h.sl h.qf) hb h.hf (atI_ran h0 h1)
theorem ev_Wfs (hb : Ev tb σ H (.int v)) (h0 : 0 ≤ v) (h1 : v < W.n) : Ev (tOp (rIx K) (tPW_second K ta) tb) σ H (.ref (A.fs v)) := ev_ix (ev_prop ha h.sl h.qs) hb h.hs (atI_ran h0 h1)
theorem ev_Wmark (hb : Ev tb σ H (.int v)) (h0 : 0 ≤ v) (h1 : v < W.n) : Ev (tOp (rIx K) (tPW_marks K ta) tb) σ H (.int (W.mark v)) := ev_ixR (ev_prop ha h.sl h.qm) hb h.hm h0 h1
/-- not web.first[v] -/
theorem et_Wmov (hb : Ev tb σ H (.int v)) (h0 : 0 ≤ v) (h1 : v < W.n) : EvT (tTru K (tOp (rIx K) (tPW_first K ta) tb)) σ H (W.mov v) := by
  have := et_tru (ev_Wff ha h hb h0 h1) (h.ff v h0 h1).1
  have e : (!(intV (W.F v)).isEmpty) = W.mov v := by
    unfold Wb.mov intV
    cases W.F v <;> rfl
  rw [e] at this
  exact this
end
/-! ### need_web, need_stand, need_moving -/
def sp_need_web (K : Frag) : Sp := fun vs H Q _ => ∃ a W A, vs = [.ref a] ∧ WebAt K H a W A ∧ RetV .non H Q
/-! need_web -/
abbrev N_need_web : List Str := ["web"]
abbrev s_need_web : Stmt := top 33
theorem sc_need_web : FnScope N_need_web ["web"] (defScope s_need_web) := ⟨rfl, rfl, rfl, by decide +kernel, rfl, by decide +kernel, by decide +kernel⟩
def t_need_web (K : Frag) : TS := (tIfS (tNot (tB (tCB (SlX.rIsiSl K (.ref (gW K))) (tCons (tVar 0) (tCons (tC (.ref (gW K))) tNil))))) tNever tNext)
section
variable {w : World} {K : Frag} {mg : Str → Option Value} {vs : List V} {H : Hp} {Q : VK} {E : XK}
theorem len_need_web (h : sp_need_web K vs H Q E) : vs.length = 1 := by obtain ⟨a, W, A, rfl, _⟩ := h; rfl
theorem pure_need_web (T : Txt w K mg) (h : sp_need_web K vs H Q E) : t_need_web K (E1 Q) (start N_need_web vs) H := by
  obtain ⟨a, W, A, rfl, hw, k⟩ := h
  refine s_not (et_is (b := false) (et_not (a := true) (et_B fun H1 e1 Q1 q1 => ?_)) rfl) fun H1 e => k H1 e
  exact ⟨_, rfl, a, gW K, A.dx, A.ws, .ref (gW K), true, rfl, rfl, fun u h => h, slt_mono e1 hw.sl, T.sclW, T.isiW.1, T.isiW.2, q1 H1 (Ex.refl _)⟩
end
theorem d_need_web {P : Program} {w : World} {K : Frag} {mg : Str → Option Value} {base : Heap} (T : Txt w K mg) {f : Addr} {cdv : Value} {A : Around} {outer : List Env} {s : Shared} {H : Hp} {E : XK} (hr : Room 0 (A.deeper (envOfC "need_web" (defScope s_need_web) s.heap.objs.size f cdv))) :
    PSs (cxOf CX0 P w K mg base N_need_web "need_web" (defScope s_need_web) f cdv A outer s H E).nox (defBody s_need_web) (t_need_web K) := by
  exact (pss_one (ps_if (pt_not (pt_val (pe_callB (call_isiSl _) (by rfl) (T.free (memOf 5 rfl)) b_isinstance (pa_cons (pv 0) (pa_cons (pe_glob (v := .ref (gW K)) (by rfl) (T.glo (memOf 74 rfl)) rfl) pa_nil))))) (pss_one ps_never) pss_nil))
theorem ok_need_web {P : Program} {w : World} {K : Frag} {mg : Str → Option Value} {base : Heap} (T : Txt w K mg) : GF P w K mg base "need_web" 1 (sp_need_web K) := by
  have F := T.def_ (d := xf_need_web) (memOf 25 rfl) rfl
  refine ⟨fnr_mk (k := 0) F sc_need_web (fun _ _ _ _ _ _ us hl => match us, hl with | [_], _ => rfl) (fun vs H Q E h => len_need_web h) (fun cdv A outer s H vs Q E hr h => ⟨t_need_web K, d_need_web T hr, pure_need_web T h⟩), ?_, T.glo (memOf 18 rfl)⟩
  obtain ⟨fd, F⟩ := F
  exact F.kp
theorem spv_need_web {K : Frag} {H : Hp} {a : Addr} {W : Wb} {A : WA} (h : WebAt K H a W A) : SpV (sp_need_web K) [.ref a] H .non := fun H1 e Q q E => ⟨a, W, A, rfl, h.mono e, fun H2 e2 => q H2 e2⟩
def sp_need_stand (K : Frag) : Sp := fun vs H Q _ => ∃ a W A v, vs = [.ref a, .int v] ∧ WebAt K H a W A ∧ 0 ≤ v ∧ v < W.n ∧ RetV .non H Q
/-! need_stand -/
abbrev N_need_stand : List Str := ["web", "stand"]
abbrev s_need_stand : Stmt := top 34
theorem sc_need_stand : FnScope N_need_stand ["web", "stand"] (defScope s_need_stand) := ⟨rfl, rfl, rfl, by decide +kernel, rfl, by decide +kernel, by decide +kernel⟩
def t_need_stand (K : Frag) : TS := (tDrop (tFn (sp_need_between K) (tCons (tVar 1) (tCons (tC (.int 0)) (tCons (tOp rSub (tPW_size K (tVar 0)) (tC (.int 1))) (tCons (tC (.str "a stand")) tNil))))))
section
variable {w : World} {K : Frag} {mg : Str → Option Value} {vs : List V} {H : Hp} {Q : VK} {E : XK}
theorem len_need_stand (h : sp_need_stand K vs H Q E) : vs.length = 2 := by obtain ⟨a, W, A, v, rfl, _⟩ := h; rfl
theorem pure_need_stand (T : Txt w K mg) (h : sp_need_stand K vs H Q E) : t_need_stand K (E1 Q) (start N_need_stand vs) H := by
  obtain ⟨a, W, A, v, rfl, hw, h0, h1, k⟩ := h
  exact s_drop (ev_fn (ea_cons (ev_var rfl) (ea_cons ev_c (ea_cons (ev_I (ev_Wsize (ev_var rfl) hw) ev_c) (ea_cons ev_c ea_nil)))) (spv_need_between h0 (by omega))) fun H1 e => k H1 e
end
theorem d_need_stand {P : Program} {w : World} {K : Frag} {mg : Str → Option Value} {base : Heap} (T : Txt w K mg) {f : Addr} {cdv : Value} {A : Around} {outer : List Env} {s : Shared} {H : Hp} {E : XK} (hr : Room 2 (A.deeper (envOfC "need_stand" (defScope s_need_stand) s.heap.objs.size f cdv))) :
    PSs (cxOf CX0 P w K mg base N_need_stand "need_stand" (defScope s_need_stand) f cdv A outer s H E).nox (defBody s_need_stand) (t_need_stand K) := by
  exact (pss_one (ps_expr (pe_f (ok_need_between T) hr (by decide) (by rfl) (pa_cons (pv 1) (pa_cons pe_int (pa_cons (pe_op op_sub (pe_W_size T (pv 0) hr (by decide)) pe_int) (pa_cons pe_str pa_nil)))))))
theorem ok_need_stand {P : Program} {w : World} {K : Frag} {mg : Str → Option Value} {base : Heap} (T : Txt w K mg) : GF P w K mg base "need_stand" 3 (sp_need_stand K) := by
  have F := T.def_ (d := xf_need_stand) (memOf 26 rfl) rfl
  refine ⟨fnr_mk (k := 2) F sc_need_stand (fun _ _ _ _ _ _ us hl => match us, hl with | [_, _], _ => rfl) (fun vs H Q E h => len_need_stand h) (fun cdv A outer s H vs Q E hr h => ⟨t_need_stand K, d_need_stand T hr, pure_need_stand T h⟩), ?_, T.glo (memOf 19 rfl)⟩
  obtain ⟨fd, F⟩ := F
  exact F.kp
theorem spv_need_stand {K : Frag} {H : Hp} {a : Addr} {W : Wb} {A : WA} {v : Int} (h : WebAt K H a W A) (h0 : 0 ≤ v) (h1 : v < W.n) : SpV (sp_need_stand K) [.ref a, .int v] H .non := fun H1 e Q q E => ⟨a, W, A, v, rfl, h.mono e, h0, h1, fun H2 e2 => q H2 e2⟩
def sp_need_moving (K : Frag) : Sp := fun vs H Q _ => ∃ a W A v, vs = [.ref a, .int v] ∧ WebAt K H a W A ∧ 0 ≤ v ∧ v < W.n ∧ W.mov v = true ∧ RetV .non H Q
/-! need_moving -/
abbrev N_need_moving : List Str := ["web", "stand"]
abbrev s_need_moving : Stmt := top 35
theorem sc_need_moving : FnScope N_need_moving ["web", "stand"] (defScope s_need_moving) := ⟨rfl, rfl, rfl, by decide +kernel, rfl, by decide +kernel, by decide +kernel⟩
def t_need_moving (K : Frag) : TS := (tIfS (tNot (tTru K (tOp (rIx K) (tPW_first K (tVar 0)) (tVar 1)))) tNever tNext)
section
variable {w : World} {K : Frag} {mg : Str → Option Value} {vs : List V} {H : Hp} {Q : VK} {E : XK}
theorem len_need_moving (h : sp_need_moving K vs H Q E) : vs.length = 2 := by obtain ⟨a, W, A, v, rfl, _⟩ := h; rfl
theorem pure_need_moving (T : Txt w K mg) (h : sp_need_moving K vs H Q E) : t_need_moving K (E1 Q) (start N_need_moving vs) H := by
  obtain ⟨a, W, A, v, rfl, hw, h0, h1, hm, k⟩ := h
  exact s_not (et_is (et_not (et_Wmov (ev_var rfl) hw (ev_var rfl) h0 h1)) (by rw [hm] <;> rfl)) fun H1 e => k H1 e
end
theorem d_need_moving {P : Program} {w : World} {K : Frag} {mg : Str → Option Value} {base : Heap} (T : Txt w K mg) {f : Addr} {cdv : Value} {A : Around} {outer : List Env} {s : Shared} {H : Hp} {E : XK} (hr : Room 2 (A.deeper (envOfC "need_moving" (defScope s_need_moving) s.heap.objs.size f cdv))) :
    PSs (cxOf CX0 P w K mg base N_need_moving "need_moving" (defScope s_need_moving) f cdv A outer s H E).nox (defBody s_need_moving) (t_need_moving K) := by
  exact (pss_one (ps_if (pt_not (pt_truth (pe_ix ix_seq (pe_W_first T (pv 0) hr (by decide)) (pv 1) (fun _ _ => rfl)) (by intro _; rfl))) (pss_one ps_never) pss_nil))
theorem ok_need_moving {P : Program} {w : World} {K : Frag} {mg : Str → Option Value} {base : Heap} (T : Txt w K mg) : GF P w K mg base "need_moving" 3 (sp_need_moving K) := by
  have F := T.def_ (d := xf_need_moving) (memOf 27 rfl) rfl
  refine ⟨fnr_mk (k := 2) F sc_need_moving (fun _ _ _ _ _ _ us hl => match us, hl with | [_, _], _ => rfl) (fun vs H Q E h => len_need_moving h) (fun cdv A outer s H vs Q E hr h => ⟨t_need_moving K, d_need_moving T hr, pure_need_moving T h⟩), ?_, T.glo (memOf 20 rfl)⟩
  obtain ⟨fd, F⟩ := F
  exact F.kp
theorem spv_need_moving {K : Frag} {H : Hp} {a : Addr} {W : Wb} {A : WA} {v : Int} (h : WebAt K H a W A) (h0 : 0 ≤ v) (h1 : v < W.n) (hm : W.mov v = true) : SpV (sp_need_moving K) [.ref a, .int v] H .non := fun H1 e Q q E => ⟨a, W, A, v, rfl, h.mono e, h0, h1, hm, fun H2 e2 => q H2 e2⟩
/-! ### prices -/
def sp_price_low (K : Frag) : Sp := fun vs H Q _ => ∃ a W A r f v, vs = [.ref a, .ref r, .int v] ∧ WebAt K H a W A ∧ SqA K H r (rowV W.n f) ∧ 0 ≤ v ∧ v < W.n ∧ W.mov v = true ∧ RetV (.int (lo W f v)) H Q
/-! price_low -/
abbrev N_price_low : List Str := ["web", "row", "stand", "w"]
abbrev s_price_low : Stmt := top 39
theorem sc_price_low : FnScope N_price_low ["web", "row", "stand"] (defScope s_price_low) := ⟨rfl, rfl, rfl, by decide +kernel, rfl, by decide +kernel, by decide +kernel⟩
def t_price_low (K : Frag) : TS := (tRet (tCB (rMin K) (tCons (tLc (iSeq K (tOp (rIx K) (tPW_first K (tVar 0)) (tVar 2))) (gName 3) tYes (tOp (rIx K) (tVar 1) (tVar 3)) [3]) tNil)))
section
variable {w : World} {K : Frag} {mg : Str → Option Value} {vs : List V} {H : Hp} {Q : VK} {E : XK}
theorem len_price_low (h : sp_price_low K vs H Q E) : vs.length = 3 := by obtain ⟨a, W, A, r, f, v, rfl, _⟩ := h; rfl
theorem pure_price_low (T : Txt w K mg) (h : sp_price_low K vs H Q E) : t_price_low K (E1 Q) (start N_price_low vs) H := by
  obtain ⟨a, W, A, r, f, v, rfl, hw, hr, h0, h1, hm, k⟩ := h
  refine s_ret (ev_minL (el_lcM (ea_of (ev_Wff (ev_var rfl) hw (ev_var rfl) h0 h1) (hw.ff v h0 h1).1) (by have := (hw.ff v h0 h1).2.1; omega) (fun _ => rfl) (fun x H1 e1 hx => ?_)) ?_) fun H1 e => k H1 e
  · have hb := hw.ok.fr v x h0 h1 hx
    exact ev_ixR (ev_var rfl) (ev_var rfl) (hr.mono e1) hb.1 hb.2
  · intro z
    exact mov_ne hm (List.map_eq_nil_iff.mp z)
end
theorem d_price_low {P : Program} {w : World} {K : Frag} {mg : Str → Option Value} {base : Heap} (T : Txt w K mg) {f : Addr} {cdv : Value} {A : Around} {outer : List Env} {s : Shared} {H : Hp} {E : XK} (hr : Room 2 (A.deeper (envOfC "price_low" (defScope s_price_low) s.heap.objs.size f cdv))) :
    PSs (cxOf CX0 P w K mg base N_price_low "price_low" (defScope s_price_low) f cdv A outer s H E).nox (defBody s_price_low) (t_price_low K) := by
  exact (pss_one (ps_ret (pe_callB (cr_min rfl) (by rfl) (T.free (memOf 2 rfl)) b_min (pa_cons (pe_lc (own := [("w", 3)]) (g := gName 3) (tt := tYes) (te := (tOp (rIx K) (tVar 1) (tVar 3))) rfl sc_price_low.nd (pi_seq (pe_ix ix_seq (pe_W_first T (pv 0) hr (by decide)) (pv 2) (fun _ _ => rfl))) (blkOk_by (N := N_price_low) (sc := defScope s_price_low) (by decide +kernel)) (fun _ _ _ _ _ => pg_name (i := 3) sc_price_low.nd rfl (Or.inl rfl)) (fun _ _ _ _ _ => pts_nil) (fun _ _ _ _ _ => (pe_ix ix_seq (pv 1) (pv 3) (fun _ _ => rfl)))) pa_nil))))
theorem ok_price_low {P : Program} {w : World} {K : Frag} {mg : Str → Option Value} {base : Heap} (T : Txt w K mg) : GF P w K mg base "price_low" 3 (sp_price_low K) := by
  have F := T.def_ (d := xf_price_low) (memOf 29 rfl) rfl
  refine ⟨fnr_mk (k := 2) F sc_price_low (fun _ _ _ _ _ _ us hl => match us, hl with | [_, _, _], _ => rfl) (fun vs H Q E h => len_price_low h) (fun cdv A outer s H vs Q E hr h => ⟨t_price_low K, d_price_low T hr, pure_price_low T h⟩), ?_, T.glo (memOf 22 rfl)⟩
  obtain ⟨fd, F⟩ := F
  exact F.kp
theorem spv_price_low {K : Frag} {H : Hp} {a r : Addr} {W : Wb} {A : WA} {f : Int → Int} {v : Int} (h : WebAt K H a W A) (hr : SqA K H r (rowV W.n f)) (h0 : 0 ≤ v) (h1 : v < W.n) (hm : W.mov v = true) : SpV (sp_price_low K) [.ref a, .ref r, .int v] H (.int (lo W f v)) := fun H1 e Q q E => ⟨a, W, A, r, f, v, rfl, h.mono e, hr.mono e, h0, h1, hm, fun H2 e2 => q H2 e2⟩
def sp_price_high (K : Frag) : Sp := fun vs H Q _ => ∃ a W A r f v, vs = [.ref a, .ref r, .int v] ∧ WebAt K H a W A ∧ SqA K H r (rowV W.n f) ∧ 0 ≤ v ∧ v < W.n ∧ W.mov v = true ∧ RetV (.int (hi W f v)) H Q
/-! price_high -/
abbrev N_price_high : List Str := ["web", "row", "stand", "w"]
abbrev s_price_high : Stmt := top 40
theorem sc_price_high : FnScope N_price_high ["web", "row", "stand"] (defScope s_price_high) := ⟨rfl, rfl, rfl, by decide +kernel, rfl, by decide +kernel, by decide +kernel⟩
def t_price_high (K : Frag) : TS := (tRet (tCB (rMax K) (tCons (tLc (iSeq K (tOp (rIx K) (tPW_second K (tVar 0)) (tVar 2))) (gName 3) tYes (tOp (rIx K) (tVar 1) (tVar 3)) [3]) tNil)))
section
variable {w : World} {K : Frag} {mg : Str → Option Value} {vs : List V} {H : Hp} {Q : VK} {E : XK}
theorem len_price_high (h : sp_price_high K vs H Q E) : vs.length = 3 := by obtain ⟨a, W, A, r, f, v, rfl, _⟩ := h; rfl
theorem pure_price_high (T : Txt w K mg) (h : sp_price_high K vs H Q E) : t_price_high K (E1 Q) (start N_price_high vs) H := by
  obtain ⟨a, W, A, r, f, v, rfl, hw, hr, h0, h1, hm, k⟩ := h
  refine s_ret (ev_maxL (el_lcM (ea_of (ev_Wfs (ev_var rfl) hw (ev_var rfl) h0 h1) (hw.fs v h0 h1).1) (by have := (hw.fs v h0 h1).2.1; omega) (fun _ => rfl) (fun x H1 e1 hx => ?_)) ?_) fun H1 e => k H1 e
  · have hb := hw.ok.sr v x h0 h1 hx
    exact ev_ixR (ev_var rfl) (ev_var rfl) (hr.mono e1) hb.1 hb.2
  · intro z
    exact ne_S hw.ok h0 h1 hm (List.map_eq_nil_iff.mp z)
end
theorem d_price_high {P : Program} {w : World} {K : Frag} {mg : Str → Option Value} {base : Heap} (T : Txt w K mg) {f : Addr} {cdv : Value} {A : Around} {outer : List Env} {s : Shared} {H : Hp} {E : XK} (hr : Room 2 (A.deeper (envOfC "price_high" (defScope s_price_high) s.heap.objs.size f cdv))) :
    PSs (cxOf CX0 P w K mg base N_price_high "price_high" (defScope s_price_high) f cdv A outer s H E).nox (defBody s_price_high) (t_price_high K) := by
  exact (pss_one (ps_ret (pe_callB (cr_max rfl) (by rfl) (T.free (memOf 3 rfl)) b_max (pa_cons (pe_lc (own := [("w", 3)]) (g := gName 3) (tt := tYes) (te := (tOp (rIx K) (tVar 1) (tVar 3))) rfl sc_price_high.nd (pi_seq (pe_ix ix_seq (pe_W_second T (pv 0) hr (by decide)) (pv 2) (fun _ _ => rfl))) (blkOk_by (N := N_price_high) (sc := defScope s_price_high) (by decide +kernel)) (fun _ _ _ _ _ => pg_name (i := 3) sc_price_high.nd rfl (Or.inl rfl)) (fun _ _ _ _ _ => pts_nil) (fun _ _ _ _ _ => (pe_ix ix_seq (pv 1) (pv 3) (fun _ _ => rfl)))) pa_nil))))
theorem ok_price_high {P : Program} {w : World} {K : Frag} {mg : Str → Option Value} {base : Heap} (T : Txt w K mg) : GF P w K mg base "price_high" 3 (sp_price_high K) := by
  have F := T.def_ (d := xf_price_high) (memOf 30 rfl) rfl
  refine ⟨fnr_mk (k := 2) F sc_price_high (fun _ _ _ _ _ _ us hl => match us, hl with | [_, _, _], _ => rfl) (fun vs H Q E h => len_price_high h) (fun cdv A outer s H vs Q E hr h => ⟨t_price_high K, d_price_high T hr, pure_price_high T h⟩), ?_, T.glo (memOf 23 rfl)⟩
  obtain ⟨fd, F⟩ := F
  exact F.kp
theorem spv_price_high {K : Frag} {H : Hp} {a r : Addr} {W : Wb} {A : WA} {f : Int → Int} {v : Int} (h : WebAt K H a W A) (hr : SqA K H r (rowV W.n f)) (h0 : 0 ≤ v) (h1 : v < W.n) (hm : W.mov v = true) : SpV (sp_price_high K) [.ref a, .ref r, .int v] H (.int (hi W f v)) := fun H1 e Q q E => ⟨a, W, A, r, f, v, rfl, h.mono e, hr.mono e, h0, h1, hm, fun H2 e2 => q H2 e2⟩
def sp_price_at (K : Frag) : Sp := fun vs H Q _ => ∃ a W A k r f v, vs = [.ref a, .int k, .ref r, .int v] ∧ WebAt K H a W A ∧ SqA K H r (rowV W.n f) ∧ 0 ≤ v ∧ v < W.n ∧ W.mov v = true ∧ RetV (.int (price W f v)) H Q
/-! price_at -/
abbrev N_price_at : List Str := ["web", "k", "row", "stand"]
abbrev s_price_at : Stmt := top 41
theorem sc_price_at : FnScope N_price_at ["web", "k", "row", "stand"] (defScope s_price_at) := ⟨rfl, rfl, rfl, by decide +kernel, rfl, by decide +kernel, by decide +kernel⟩
def t_price_at (K : Frag) : TS := (tSeq (tIfS (tNot (tTru K (tOp (rIx K) (tPW_first K (tVar 0)) (tVar 3)))) (tRet (tOp rAdd (tVar 1) (tC (.int 1)))) tNext)
    (tRet (tFn (sp_half_of K) (tCons (tOp (rIx K) (tPW_marks K (tVar 0)) (tVar 3)) (tCons (tFn (sp_price_low K) (tCons (tVar 0) (tCons (tVar 2) (tCons (tVar 3) tNil)))) (tCons (tFn (sp_price_high K) (tCons (tVar 0) (tCons (tVar 2) (tCons (tVar 3) tNil)))) tNil))))))
section
variable {w : World} {K : Frag} {mg : Str → Option Value} {vs : List V} {H : Hp} {Q : VK} {E : XK}
theorem len_price_at (h : sp_price_at K vs H Q E) : vs.length = 4 := by obtain ⟨a, W, A, k, r, f, v, rfl, _⟩ := h; rfl
theorem pure_price_at (T : Txt w K mg) (h : sp_price_at K vs H Q E) : t_price_at K (E1 Q) (start N_price_at vs) H := by
  obtain ⟨a, W, A, k, r, f, v, rfl, hw, hr, h0, h1, hm, q⟩ := h
  refine q_not (et_is (et_not (et_Wmov (ev_var rfl) hw (ev_var rfl) h0 h1)) (by rw [hm] <;> rfl)) fun H1 e1 => ?_
  have hw1 := hw.mono e1
  have hr1 := hr.mono e1
  exact s_ret (ev_fn (ea_cons (ev_Wmark (ev_var rfl) hw1 (ev_var rfl) h0 h1) (ea_cons (ev_fn (ea_cons (ev_var rfl) (ea_cons (ev_var rfl) (ea_cons (ev_var rfl) ea_nil))) (spv_price_low hw1 hr1 h0 h1 hm))
    (ea_cons (ev_fn (ea_cons (ev_var rfl) (ea_cons (ev_var rfl) (ea_cons (ev_var rfl) ea_nil))) (spv_price_high hw1 hr1 h0 h1 hm)) ea_nil))) spv_half_of) fun H2 e2 => q H2 (e1.trans e2)
end
theorem d_price_at {P : Program} {w : World} {K : Frag} {mg : Str → Option Value} {base : Heap} (T : Txt w K mg) {f : Addr} {cdv : Value} {A : Around} {outer : List Env} {s : Shared} {H : Hp} {E : XK} (hr : Room 3 (A.deeper (envOfC "price_at" (defScope s_price_at) s.heap.objs.size f cdv))) :
    PSs (cxOf CX0 P w K mg base N_price_at "price_at" (defScope s_price_at) f cdv A outer s H E).nox (defBody s_price_at) (t_price_at K) := by
  exact (pss_cons (ps_if (pt_not (pt_truth (pe_ix ix_seq (pe_W_first T (pv 0) hr (by decide)) (pv 3) (fun _ _ => rfl)) (by intro _; rfl))) (pss_one (ps_ret (pe_op op_add (pv 1) pe_int))) pss_nil)
    (pss_one (ps_ret (pe_f (ok_half_of T) hr (by decide) (by rfl) (pa_cons (pe_ix ix_seq (pe_W_marks T (pv 0) hr (by decide)) (pv 3) (fun _ _ => rfl)) (pa_cons (pe_f (ok_price_low T) hr (by decide) (by rfl) (pa_cons (pv 0) (pa_cons (pv 2) (pa_cons (pv 3) pa_nil)))) (pa_cons (pe_f (ok_price_high T) hr (by decide) (by rfl) (pa_cons (pv 0) (pa_cons (pv 2) (pa_cons (pv 3) pa_nil)))) pa_nil)))))))
theorem ok_price_at {P : Program} {w : World} {K : Frag} {mg : Str → Option Value} {base : Heap} (T : Txt w K mg) : GF P w K mg base "price_at" 4 (sp_price_at K) := by
  have F := T.def_ (d := xf_price_at) (memOf 31 rfl) rfl
  refine ⟨fnr_mk (k := 3) F sc_price_at (fun _ _ _ _ _ _ us hl => match us, hl with | [_, _, _, _], _ => rfl) (fun vs H Q E h => len_price_at h) (fun cdv A outer s H vs Q E hr h => ⟨t_price_at K, d_price_at T hr, pure_price_at T h⟩), ?_, T.glo (memOf 24 rfl)⟩
  obtain ⟨fd, F⟩ := F
  exact F.kp
theorem spv_price_at {K : Frag} {H : Hp} {a r : Addr} {W : Wb} {A : WA} {f : Int → Int} {k v : Int} (h : WebAt K H a W A) (hr : SqA K H r (rowV W.n f)) (h0 : 0 ≤ v) (h1 : v < W.n) (hm : W.mov v = true) : SpV (sp_price_at K) [.ref a, .int k, .ref r, .int v] H (.int (price W f v)) := fun H1 e Q q E => ⟨a, W, A, k, r, f, v, rfl, h.mono e, hr.mono e, h0, h1, hm, fun H2 e2 => q H2 e2⟩
end Pw
end

section
set_option maxRecDepth 100000
set_option maxHeartbeats 4000000
/-! Told bids, looks at calls, rounds. -/
namespace Pw
open PySem PySem.Spec L2 Evl StX PwS SlX
open PyProof.Rows hiding St
/-- a new pair of ints -/
def RetP (K : Frag) (b s : Int) (H : Hp) (Q : VK) : Prop := ∀ p H', Ex H H' → SqT K H' p [.int b, .int s] → Q (.ref p) H'
theorem pick_ne {l : List Int} {p : Int → Bool} (h : ∃ x ∈ l, p x = true) : l.filter p ≠ [] := fun z => by
  obtain ⟨x, hx, hp⟩ := h
  have := List.mem_filter.mpr ⟨hx, hp⟩
  rw [z] at this
  cases this
def sp_told_first (K : Frag) : Sp := fun vs H Q _ => ∃ a W A r f v b, vs = [.ref a, .ref r, .int v, .int b] ∧ WebAt K H a W A ∧ SqA K H r (rowV W.n f) ∧ 0 ≤ v ∧ v < W.n ∧ W.mov v = true ∧ RetP K (toldB1 W f v b) (toldS1 W f v) H Q
/-! told_first -/
abbrev N_told_first : List Str := ["web", "row", "stand", "purse", "least", "bid", "w"]
abbrev s_told_first : Stmt := top 43
theorem sc_told_first : FnScope N_told_first ["web", "row", "stand", "purse"] (defScope s_told_first) := ⟨rfl, rfl, rfl, by decide +kernel, rfl, by decide +kernel, by decide +kernel⟩
def t_told_first (K : Frag) : TS := (tSeq (tAsg (tFn (sp_price_low K) (tCons (tVar 0) (tCons (tVar 1) (tCons (tVar 2) tNil)))) (gName 4))
    (tSeq (tAsg (tOp rSub (tFn (sp_price_high K) (tCons (tVar 0) (tCons (tVar 1) (tCons (tVar 2) tNil)))) (tVar 3)) (gName 5))
    (tSeq (tIfS (tTest (tOp rEq (tOp (rIx K) (tPW_marks K (tVar 0)) (tVar 2)) (tC (.int 1)))) (tAsg (tOp rSub (tVar 5) (tC (.int 1))) (gName 5)) tNext)
    (tRet (tTup (tCons (tCB rMax2' (tCons (tC (.int 0)) (tCons (tVar 5) tNil))) (tCons (tCB (rMin K) (tCons (tLc (iSeq K (tOp (rIx K) (tPW_first K (tVar 0)) (tVar 2))) (gName 6) (tTest (tOp rEq (tOp (rIx K) (tVar 1) (tVar 6)) (tVar 4))) (tVar 6) [6]) tNil)) tNil)))))))
section
variable {w : World} {K : Frag} {mg : Str → Option Value} {vs : List V} {H : Hp} {Q : VK} {E : XK}
theorem len_told_first (h : sp_told_first K vs H Q E) : vs.length = 4 := by obtain ⟨a, W, A, r, f, v, b, rfl, _⟩ := h; rfl
theorem pure_told_first (T : Txt w K mg) (h : sp_told_first K vs H Q E) : t_told_first K (E1 Q) (start N_told_first vs) H := by
  obtain ⟨a, W, A, r, f, v, b, rfl, hw, hr, h0, h1, hm, k⟩ := h
  refine q_asg (ev_fn (ea_cons (ev_var rfl) (ea_cons (ev_var rfl) (ea_cons (ev_var rfl) ea_nil))) (spv_price_low hw hr h0 h1 hm)) fun H1 e1 => ?_
  refine q_asg (ev_I (ev_fn (ea_cons (ev_var rfl) (ea_cons (ev_var rfl) (ea_cons (ev_var rfl) ea_nil))) (spv_price_high (hw.mono e1) (hr.mono e1) h0 h1 hm)) (ev_var rfl)) fun H2 e2 => ?_
  have hw2 := hw.mono (e1.trans e2)
  have hr2 := hr.mono (e1.trans e2)
  refine q_ifAsg (v := .int (hi W f v - b - m1 W v)) (et_test (ev_eqI (ev_Wmark (ev_var rfl) hw2 (ev_var rfl) h0 h1) ev_c)) (fun c => ?_) (fun c => ?_) fun H3 e3 => ?_
  · refine ev_is (ev_I (ev_var rfl) ev_c) ?_
    show V.int _ = V.int _
    unfold m1
    rw [if_pos (of_decide_eq_true c)]
  · have e : m1 W v = 0 := by unfold m1; rw [if_neg (of_decide_eq_false c)]
    rw [e, Int.sub_zero]
    rfl
  have hw3 := hw2.mono e3
  have hr3 := hr2.mono e3
  refine s_retX (EvU.toX (eu_tup (vs := [.int (toldB1 W f v b), .int (toldS1 W f v)]) (ea_cons (ev_mx ev_c (ev_var rfl)) (ea_cons (ev_minL (el_lcF (p := fun w => decide (f w = lo W f v)) (ea_of (ev_Wff (ev_var rfl) hw3 (ev_var rfl) h0 h1) (hw3.ff v h0 h1).1) (by have := (hw.ff v h0 h1).2.1; omega) (fun _ => rfl) (fun x H4 e4 hx => ?_) (fun x H4 => ev_var rfl)) ?_) ea_nil)) (by show 2 ≤ 100000; decide))) fun y H4 e4 ⟨p, ey, hp⟩ => ?_
  · have hb := hw.ok.fr v x h0 h1 hx
    exact et_test (ev_eqI (ev_ixR (ev_var rfl) (ev_var rfl) (hr3.mono e4) hb.1 hb.2) (ev_var rfl))
  · refine pick_ne ?_
    obtain ⟨w', hw', e'⟩ := lo_mem hw.ok hm f
    exact ⟨w', hw', decide_eq_true e'⟩
  · subst ey
    exact k p H4 ((e1.trans e2).trans (e3.trans e4)) (st_of hp)
end
theorem d_told_first {P : Program} {w : World} {K : Frag} {mg : Str → Option Value} {base : Heap} (T : Txt w K mg) {f : Addr} {cdv : Value} {A : Around} {outer : List Env} {s : Shared} {H : Hp} {E : XK} (hr : Room 3 (A.deeper (envOfC "told_first" (defScope s_told_first) s.heap.objs.size f cdv))) :
    PSs (cxOf CX0 P w K mg base N_told_first "told_first" (defScope s_told_first) f cdv A outer s H E).nox (defBody s_told_first) (t_told_first K) := by
  exact (pss_cons (ps_set (i := 4) sc_told_first.nd rfl (Or.inr rfl) (pe_f (ok_price_low T) hr (by decide) (by rfl) (pa_cons (pv 0) (pa_cons (pv 1) (pa_cons (pv 2) pa_nil)))))
    (pss_cons (ps_set (i := 5) sc_told_first.nd rfl (Or.inl rfl) (pe_op op_sub (pe_f (ok_price_high T) hr (by decide) (by rfl) (pa_cons (pv 0) (pa_cons (pv 1) (pa_cons (pv 2) pa_nil)))) (pv 3)))
    (pss_cons (ps_if (pt_cmpR op_eq (pe_ix ix_seq (pe_W_marks T (pv 0) hr (by decide)) (pv 2) (fun _ _ => rfl)) pe_int (nomark _)) (pss_one (ps_set (i := 5) sc_told_first.nd rfl (Or.inl rfl) (pe_op op_sub (pv 5) pe_int))) pss_nil)
    (pss_one (ps_ret (pe_tup (pa_cons (pe_callB (call_max2 rfl) (by rfl) (T.free (memOf 3 rfl)) b_max (pa_cons pe_int (pa_cons (pv 5) pa_nil))) (pa_cons (pe_callB (cr_min rfl) (by rfl) (T.free (memOf 2 rfl)) b_min (pa_cons (pe_lc (own := [("w", 6)]) (g := gName 6) (tt := (tTest (tOp rEq (tOp (rIx K) (tVar 1) (tVar 6)) (tVar 4)))) (te := (tVar 6)) rfl sc_told_first.nd (pi_seq (pe_ix ix_seq (pe_W_first T (pv 0) hr (by decide)) (pv 2) (fun _ _ => rfl))) (blkOk_by (N := N_told_first) (sc := defScope s_told_first) (by decide +kernel)) (fun _ _ _ _ _ => pg_name (i := 6) sc_told_first.nd rfl (Or.inl rfl)) (fun _ _ _ _ _ => pts_one (pt_cmpR op_eq (pe_ix ix_seq (pv 1) (pv 6) (fun _ _ => rfl)) (pv 4) (nomark _))) (fun _ _ _ _ _ => (pv 6))) pa_nil)) pa_nil))))))))
theorem ok_told_first {P : Program} {w : World} {K : Frag} {mg : Str → Option Value} {base : Heap} (T : Txt w K mg) : GF P w K mg base "told_first" 4 (sp_told_first K) := by
  have F := T.def_ (d := xf_told_first) (memOf 32 rfl) rfl
  refine ⟨fnr_mk (k := 3) F sc_told_first (fun _ _ _ _ _ _ us hl => match us, hl with | [_, _, _, _], _ => rfl) (fun vs H Q E h => len_told_first h) (fun cdv A outer s H vs Q E hr h => ⟨t_told_first K, d_told_first T hr, pure_told_first T h⟩), ?_, T.glo (memOf 25 rfl)⟩
  obtain ⟨fd, F⟩ := F
  exact F.kp
theorem spx_told_first {K : Frag} {H : Hp} {a r : Addr} {W : Wb} {A : WA} {f : Int → Int} {v b : Int} (h : WebAt K H a W A) (hr : SqA K H r (rowV W.n f)) (h0 : 0 ≤ v) (h1 : v < W.n) (hm : W.mov v = true) :
    SpX (sp_told_first K) [.ref a, .ref r, .int v, .int b] H (fun y H' => ∃ p, y = .ref p ∧ SqT K H' p [.int (toldB1 W f v b), .int (toldS1 W f v)]) := fun H1 e Q q E => ⟨a, W, A, r, f, v, b, rfl, h.mono e, hr.mono e, h0, h1, hm, fun p H2 e2 hp => q _ H2 e2 ⟨p, rfl, hp⟩⟩
def sp_told_second (K : Frag) : Sp := fun vs H Q _ => ∃ a W A r f v b, vs = [.ref a, .ref r, .int v, .int b] ∧ WebAt K H a W A ∧ SqA K H r (rowV W.n f) ∧ 0 ≤ v ∧ v < W.n ∧ W.mov v = true ∧ RetP K (toldB2 W f v b) (toldS2 W f v) H Q
/-! told_second -/
abbrev N_told_second : List Str := ["web", "row", "stand", "purse", "greatest", "bid", "w"]
abbrev s_told_second : Stmt := top 44
theorem sc_told_second : FnScope N_told_second ["web", "row", "stand", "purse"] (defScope s_told_second) := ⟨rfl, rfl, rfl, by decide +kernel, rfl, by decide +kernel, by decide +kernel⟩
def t_told_second (K : Frag) : TS := (tSeq (tAsg (tFn (sp_price_high K) (tCons (tVar 0) (tCons (tVar 1) (tCons (tVar 2) tNil)))) (gName 4))
    (tSeq (tAsg (tOp rSub (tVar 3) (tFn (sp_price_low K) (tCons (tVar 0) (tCons (tVar 1) (tCons (tVar 2) tNil))))) (gName 5))
    (tSeq (tIfS (tTest (tOp rEq (tOp (rIx K) (tPW_marks K (tVar 0)) (tVar 2)) (tC (.int 1)))) (tAsg (tOp rAdd (tVar 5) (tC (.int 1))) (gName 5)) tNext)
    (tRet (tTup (tCons (tCB rMax2' (tCons (tC (.int 0)) (tCons (tVar 5) tNil))) (tCons (tCB (rMin K) (tCons (tLc (iSeq K (tOp (rIx K) (tPW_second K (tVar 0)) (tVar 2))) (gName 6) (tTest (tOp rEq (tOp (rIx K) (tVar 1) (tVar 6)) (tVar 4))) (tVar 6) [6]) tNil)) tNil)))))))
section
variable {w : World} {K : Frag} {mg : Str → Option Value} {vs : List V} {H : Hp} {Q : VK} {E : XK}
theorem len_told_second (h : sp_told_second K vs H Q E) : vs.length = 4 := by obtain ⟨a, W, A, r, f, v, b, rfl, _⟩ := h; rfl
theorem pure_told_second (T : Txt w K mg) (h : sp_told_second K vs H Q E) : t_told_second K (E1 Q) (start N_told_second vs) H := by
  obtain ⟨a, W, A, r, f, v, b, rfl, hw, hr, h0, h1, hm, k⟩ := h
  refine q_asg (ev_fn (ea_cons (ev_var rfl) (ea_cons (ev_var rfl) (ea_cons (ev_var rfl) ea_nil))) (spv_price_high hw hr h0 h1 hm)) fun H1 e1 => ?_
  refine q_asg (ev_I (ev_var rfl) (ev_fn (ea_cons (ev_var rfl) (ea_cons (ev_var rfl) (ea_cons (ev_var rfl) ea_nil))) (spv_price_low (hw.mono e1) (hr.mono e1) h0 h1 hm))) fun H2 e2 => ?_
  have hw2 := hw.mono (e1.trans e2)
  have hr2 := hr.mono (e1.trans e2)
  refine q_ifAsg (v := .int (b - lo W f v + m1 W v)) (et_test (ev_eqI (ev_Wmark (ev_var rfl) hw2 (ev_var rfl) h0 h1) ev_c)) (fun c => ?_) (fun c => ?_) fun H3 e3 => ?_
  · refine ev_is (ev_I (ev_var rfl) ev_c) ?_
    show V.int _ = V.int _
    unfold m1
    rw [if_pos (of_decide_eq_true c)]
  · have e : m1 W v = 0 := by unfold m1; rw [if_neg (of_decide_eq_false c)]
    rw [e, Int.add_zero]
    rfl
  have hw3 := hw2.mono e3
  have hr3 := hr2.mono e3
  refine s_retX (EvU.toX (eu_tup (vs := [.int (toldB2 W f v b), .int (toldS2 W f v)]) (ea_cons (ev_mx ev_c (ev_var rfl)) (ea_cons (ev_minL (el_lcF (p := fun w => decide (f w = hi W f v)) (ea_of (ev_Wfs (ev_var rfl) hw3 (ev_var rfl) h0 h1) (hw3.fs v h0 h1).1) (by have := (hw.fs v h0 h1).2.1; omega) (fun _ => rfl) (fun x H4 e4 hx => ?_) (fun x H4 => ev_var rfl)) ?_) ea_nil)) (by show 2 ≤ 100000; decide))) fun y H4 e4 ⟨p, ey, hp⟩ => ?_
  · have hb := hw.ok.sr v x h0 h1 hx
    exact et_test (ev_eqI (ev_ixR (ev_var rfl) (ev_var rfl) (hr3.mono e4) hb.1 hb.2) (ev_var rfl))
  · refine pick_ne ?_
    obtain ⟨w', hw', e'⟩ := hi_mem hw.ok h0 h1 hm f
    exact ⟨w', hw', decide_eq_true e'⟩
  · subst ey
    exact k p H4 ((e1.trans e2).trans (e3.trans e4)) (st_of hp)
end
theorem d_told_second {P : Program} {w : World} {K : Frag} {mg : Str → Option Value} {base : Heap} (T : Txt w K mg) {f : Addr} {cdv : Value} {A : Around} {outer : List Env} {s : Shared} {H : Hp} {E : XK} (hr : Room 3 (A.deeper (envOfC "told_second" (defScope s_told_second) s.heap.objs.size f cdv))) :
    PSs (cxOf CX0 P w K mg base N_told_second "told_second" (defScope s_told_second) f cdv A outer s H E).nox (defBody s_told_second) (t_told_second K) := by
  exact (pss_cons (ps_set (i := 4) sc_told_second.nd rfl (Or.inr rfl) (pe_f (ok_price_high T) hr (by decide) (by rfl) (pa_cons (pv 0) (pa_cons (pv 1) (pa_cons (pv 2) pa_nil)))))
    (pss_cons (ps_set (i := 5) sc_told_second.nd rfl (Or.inl rfl) (pe_op op_sub (pv 3) (pe_f (ok_price_low T) hr (by decide) (by rfl) (pa_cons (pv 0) (pa_cons (pv 1) (pa_cons (pv 2) pa_nil))))))
    (pss_cons (ps_if (pt_cmpR op_eq (pe_ix ix_seq (pe_W_marks T (pv 0) hr (by decide)) (pv 2) (fun _ _ => rfl)) pe_int (nomark _)) (pss_one (ps_set (i := 5) sc_told_second.nd rfl (Or.inl rfl) (pe_op op_add (pv 5) pe_int))) pss_nil)
    (pss_one (ps_ret (pe_tup (pa_cons (pe_callB (call_max2 rfl) (by rfl) (T.free (memOf 3 rfl)) b_max (pa_cons pe_int (pa_cons (pv 5) pa_nil))) (pa_cons (pe_callB (cr_min rfl) (by rfl) (T.free (memOf 2 rfl)) b_min (pa_cons (pe_lc (own := [("w", 6)]) (g := gName 6) (tt := (tTest (tOp rEq (tOp (rIx K) (tVar 1) (tVar 6)) (tVar 4)))) (te := (tVar 6)) rfl sc_told_second.nd (pi_seq (pe_ix ix_seq (pe_W_second T (pv 0) hr (by decide)) (pv 2) (fun _ _ => rfl))) (blkOk_by (N := N_told_second) (sc := defScope s_told_second) (by decide +kernel)) (fun _ _ _ _ _ => pg_name (i := 6) sc_told_second.nd rfl (Or.inl rfl)) (fun _ _ _ _ _ => pts_one (pt_cmpR op_eq (pe_ix ix_seq (pv 1) (pv 6) (fun _ _ => rfl)) (pv 4) (nomark _))) (fun _ _ _ _ _ => (pv 6))) pa_nil)) pa_nil))))))))
theorem ok_told_second {P : Program} {w : World} {K : Frag} {mg : Str → Option Value} {base : Heap} (T : Txt w K mg) : GF P w K mg base "told_second" 4 (sp_told_second K) := by
  have F := T.def_ (d := xf_told_second) (memOf 33 rfl) rfl
  refine ⟨fnr_mk (k := 3) F sc_told_second (fun _ _ _ _ _ _ us hl => match us, hl with | [_, _, _, _], _ => rfl) (fun vs H Q E h => len_told_second h) (fun cdv A outer s H vs Q E hr h => ⟨t_told_second K, d_told_second T hr, pure_told_second T h⟩), ?_, T.glo (memOf 26 rfl)⟩
  obtain ⟨fd, F⟩ := F
  exact F.kp
theorem spx_told_second {K : Frag} {H : Hp} {a r : Addr} {W : Wb} {A : WA} {f : Int → Int} {v b : Int} (h : WebAt K H a W A) (hr : SqA K H r (rowV W.n f)) (h0 : 0 ≤ v) (h1 : v < W.n) (hm : W.mov v = true) :
    SpX (sp_told_second K) [.ref a, .ref r, .int v, .int b] H (fun y H' => ∃ p, y = .ref p ∧ SqT K H' p [.int (toldB2 W f v b), .int (toldS2 W f v)]) := fun H1 e Q q E => ⟨a, W, A, r, f, v, b, rfl, h.mono e, hr.mono e, h0, h1, hm, fun p H2 e2 hp => q _ H2 e2 ⟨p, rfl, hp⟩⟩
/-! ### calls -/
def COk (W : Wb) (C : Int → Bool) : Prop := ∀ v, C v = true → 0 ≤ v ∧ v < W.n ∧ W.mov v = true
structure CAt (K : Frag) (H : Hp) (c : Addr) (W : Wb) (C : Int → Bool) (l : List Int) : Prop where
  sq : SqA K H c (intV l)
  mem : ∀ v, v ∈ l ↔ C v = true
  len : l.length ≤ 60
  ok : COk W C
theorem CAt.mono {K : Frag} {H H' : Hp} {c : Addr} {W : Wb} {C : Int → Bool} {l : List Int} (e : Ex H H') (h : CAt K H c W C l) : CAt K H' c W C l := ⟨h.sq.mono e, h.mem, h.len, h.ok⟩
theorem CAt.has {K : Frag} {H : Hp} {c : Addr} {W : Wb} {C : Int → Bool} {l : List Int} (h : CAt K H c W C l) (v : Int) : l.contains v = C v := by
  rw [Bool.eq_iff_iff, List.contains_iff_mem]
  exact h.mem v
section
variable {K : Frag} {σ : L2.St} {H : Hp} {ta tb : TE} {c : Addr} {W : Wb} {C : Int → Bool} {l : List Int} {v : Int}
theorem ev_inC (ha : Ev ta σ H (.int v)) (hb : Ev tb σ H (.ref c)) (h : CAt K H c W C l) : Ev (tOp (rIn K false) ta tb) σ H (.bl (C v)) := by
  have := ev_in ha hb h.sq
  rw [h.has] at this
  exact this
theorem ev_ninC (ha : Ev ta σ H (.int v)) (hb : Ev tb σ H (.ref c)) (h : CAt K H c W C l) : Ev (tOp (rIn K true) ta tb) σ H (.bl (!C v)) := by
  have := ev_notin ha hb h.sq
  rw [h.has] at this
  exact this
end
def sp_call_kinds (K : Frag) : Sp := fun vs H Q _ => ∃ a W A k c l, vs = [.ref a, .int k, .ref c] ∧ WebAt K H a W A ∧ SqA K H c (intV l) ∧ RetV .non H Q
/-! call_kinds -/
abbrev N_call_kinds : List Str := ["web", "k", "calls"]
abbrev s_call_kinds : Stmt := top 47
theorem sc_call_kinds : FnScope N_call_kinds ["web", "k", "calls"] (defScope s_call_kinds) := ⟨rfl, rfl, rfl, by decide +kernel, rfl, by decide +kernel, by decide +kernel⟩
def t_call_kinds (K : Frag) : TS := (tSeq (tDrop (tFn (sp_need_web K) (tCons (tVar 0) tNil)))
    (tSeq (tDrop (tFn (sp_need_integer K) (tCons (tVar 1) (tCons (tC (.str "k")) tNil))))
    (tDrop (tFn (sp_need_integers K) (tCons (tVar 2) (tCons (tC (.str "the calls")) tNil))))))
section
variable {w : World} {K : Frag} {mg : Str → Option Value} {vs : List V} {H : Hp} {Q : VK} {E : XK}
theorem len_call_kinds (h : sp_call_kinds K vs H Q E) : vs.length = 3 := by obtain ⟨a, W, A, k, c, l, rfl, _⟩ := h; rfl
theorem pure_call_kinds (T : Txt w K mg) (h : sp_call_kinds K vs H Q E) : t_call_kinds K (E1 Q) (start N_call_kinds vs) H := by
  obtain ⟨a, W, A, k, c, l, rfl, hw, hc, q⟩ := h
  refine q_drop (ev_fn (ea_cons (ev_var rfl) ea_nil) (spv_need_web hw)) fun H1 e1 => ?_
  refine q_drop (ev_fn (ea_cons (ev_var rfl) (ea_cons ev_c ea_nil)) spv_need_integer) fun H2 e2 => ?_
  exact s_drop (ev_fn (ea_cons (ev_var rfl) (ea_cons ev_c ea_nil)) (spv_need_integers (hc.mono (e1.trans e2)) (by decide))) fun H3 e3 => q H3 ((e1.trans e2).trans e3)
end
theorem d_call_kinds {P : Program} {w : World} {K : Frag} {mg : Str → Option Value} {base : Heap} (T : Txt w K mg) {f : Addr} {cdv : Value} {A : Around} {outer : List Env} {s : Shared} {H : Hp} {E : XK} (hr : Room 3 (A.deeper (envOfC "call_kinds" (defScope s_call_kinds) s.heap.objs.size f cdv))) :
    PSs (cxOf CX0 P w K mg base N_call_kinds "call_kinds" (defScope s_call_kinds) f cdv A outer s H E).nox (defBody s_call_kinds) (t_call_kinds K) := by
  exact (pss_cons (ps_expr (pe_f (ok_need_web T) hr (by decide) (by rfl) (pa_cons (pv 0) pa_nil)))
    (pss_cons (ps_expr (pe_f (ok_need_integer T) hr (by decide) (by rfl) (pa_cons (pv 1) (pa_cons pe_str pa_nil))))
    (pss_one (ps_expr (pe_f (ok_need_integers T) hr (by decide) (by rfl) (pa_cons (pv 2) (pa_cons pe_str pa_nil)))))))
theorem ok_call_kinds {P : Program} {w : World} {K : Frag} {mg : Str → Option Value} {base : Heap} (T : Txt w K mg) : GF P w K mg base "call_kinds" 4 (sp_call_kinds K) := by
  have F := T.def_ (d := xf_call_kinds) (memOf 34 rfl) rfl
  refine ⟨fnr_mk (k := 3) F sc_call_kinds (fun _ _ _ _ _ _ us hl => match us, hl with | [_, _, _], _ => rfl) (fun vs H Q E h => len_call_kinds h) (fun cdv A outer s H vs Q E hr h => ⟨t_call_kinds K, d_call_kinds T hr, pure_call_kinds T h⟩), ?_, T.glo (memOf 27 rfl)⟩
  obtain ⟨fd, F⟩ := F
  exact F.kp
theorem spv_call_kinds {K : Frag} {H : Hp} {a c : Addr} {W : Wb} {A : WA} {k : Int} {l : List Int} (hw : WebAt K H a W A) (hc : SqA K H c (intV l)) : SpV (sp_call_kinds K) [.ref a, .int k, .ref c] H .non := fun H1 e Q q E => ⟨a, W, A, k, c, l, rfl, hw.mono e, hc.mono e, fun H2 e2 => q H2 e2⟩
def sp_call_set (K : Frag) : Sp := fun vs H Q _ => ∃ a W A k c C l, vs = [.ref a, .int k, .ref c] ∧ WebAt K H a W A ∧ 0 ≤ k ∧ CAt K H c W C l ∧ ∀ p H' l', Ex H H' → SqT K H' p (intV l') → CAt K H' p W C l' → Q (.ref p) H'
/-! call_set -/
abbrev N_call_set : List Str := ["web", "k", "calls"]
abbrev s_call_set : Stmt := top 48
theorem sc_call_set : FnScope N_call_set ["web", "k", "calls"] (defScope s_call_set) := ⟨rfl, rfl, rfl, by decide +kernel, rfl, by decide +kernel, by decide +kernel⟩
def t_call_set (K : Frag) : TS := (tSeq (tDrop (tFn (sp_need_from K) (tCons (tVar 1) (tCons (tC (.int 0)) (tCons (tC (.str "k")) tNil)))))
    (tRet (tFn (sp_as_stands K) (tCons (tVar 2) (tCons (tPW_size K (tVar 0)) tNil)))))
section
variable {w : World} {K : Frag} {mg : Str → Option Value} {vs : List V} {H : Hp} {Q : VK} {E : XK}
theorem len_call_set (h : sp_call_set K vs H Q E) : vs.length = 3 := by obtain ⟨a, W, A, k, c, C, l, rfl, _⟩ := h; rfl
theorem pure_call_set (T : Txt w K mg) (h : sp_call_set K vs H Q E) : t_call_set K (E1 Q) (start N_call_set vs) H := by
  obtain ⟨a, W, A, k, c, C, l, rfl, hw, hk, hc, q⟩ := h
  refine q_drop (ev_fn (ea_cons (ev_var rfl) (ea_cons ev_c (ea_cons ev_c ea_nil))) (spv_need_from hk)) fun H1 e1 => ?_
  have hs : SpX (sp_as_stands K) [.ref c, .int (W.n : Int)] H1 (fun y H2 => ∃ p l', y = .ref p ∧ SqT K H2 p (intV l') ∧ (∀ x, x ∈ l' ↔ x ∈ l) ∧ l'.length ≤ 60) := fun H2 e2 Q2 q2 E2 =>
    ⟨c, l, (W.n : Int), rfl, (hc.mono (e1.trans e2)).sq, fun x hx => by
      obtain ⟨h0, h1, _⟩ := hc.ok x ((hc.mem x).mp hx)
      exact ⟨h0, h1⟩, hc.len, fun p H3 l' e3 hp hl => q2 _ H3 e3 ⟨p, l', rfl, hp, hl.1, hl.2.2⟩⟩
  refine s_retX (evx_fn (ea_cons (ev_var rfl) (ea_cons (ev_Wsize (ev_var rfl) (hw.mono e1)) ea_nil)) hs) fun y H2 e2 ⟨p, l', ey, hp, hl, hz⟩ => ?_
  subst ey
  exact q p H2 l' (e1.trans e2) hp ⟨.t hp, fun v => (hl v).trans (hc.mem v), hz, hc.ok⟩
end
theorem d_call_set {P : Program} {w : World} {K : Frag} {mg : Str → Option Value} {base : Heap} (T : Txt w K mg) {f : Addr} {cdv : Value} {A : Around} {outer : List Env} {s : Shared} {H : Hp} {E : XK} (hr : Room 4 (A.deeper (envOfC "call_set" (defScope s_call_set) s.heap.objs.size f cdv))) :
    PSs (cxOf CX0 P w K mg base N_call_set "call_set" (defScope s_call_set) f cdv A outer s H E).nox (defBody s_call_set) (t_call_set K) := by
  exact (pss_cons (ps_expr (pe_f (ok_need_from T) hr (by decide) (by rfl) (pa_cons (pv 1) (pa_cons pe_int (pa_cons pe_str pa_nil)))))
    (pss_one (ps_ret (pe_f (ok_as_stands T) hr (by decide) (by rfl) (pa_cons (pv 2) (pa_cons (pe_W_size T (pv 0) hr (by decide)) pa_nil))))))
theorem ok_call_set {P : Program} {w : World} {K : Frag} {mg : Str → Option Value} {base : Heap} (T : Txt w K mg) : GF P w K mg base "call_set" 5 (sp_call_set K) := by
  have F := T.def_ (d := xf_call_set) (memOf 35 rfl) rfl
  refine ⟨fnr_mk (k := 4) F sc_call_set (fun _ _ _ _ _ _ us hl => match us, hl with | [_, _, _], _ => rfl) (fun vs H Q E h => len_call_set h) (fun cdv A outer s H vs Q E hr h => ⟨t_call_set K, d_call_set T hr, pure_call_set T h⟩), ?_, T.glo (memOf 28 rfl)⟩
  obtain ⟨fd, F⟩ := F
  exact F.kp
theorem spx_call_set {K : Frag} {H : Hp} {a c : Addr} {W : Wb} {A : WA} {k : Int} {C : Int → Bool} {l : List Int} (hw : WebAt K H a W A) (hk : 0 ≤ k) (hc : CAt K H c W C l) :
    SpX (sp_call_set K) [.ref a, .int k, .ref c] H (fun y H' => ∃ p l', y = .ref p ∧ SqT K H' p (intV l') ∧ CAt K H' p W C l') := fun H1 e Q q E => ⟨a, W, A, k, c, C, l, rfl, hw.mono e, hk, hc.mono e, fun p H2 l' e2 hp hl => q _ H2 e2 ⟨p, l', rfl, hp, hl⟩⟩
/-- call_bounds, all four written -/
def sp_call_bounds4 (K : Frag) : Sp := fun vs H Q _ => ∃ a W A k c C l m, vs = [.ref a, .int k, .ref c, .int m] ∧ WebAt K H a W A ∧ CAt K H c W C l ∧ k ≤ m ∧ RetV .non H Q
/-- .. and with three -/
def sp_call_bounds (K : Frag) : Sp := fun vs H Q E => sp_call_bounds4 K (vs ++ [.int 60]) H Q E
/-! call_bounds -/
abbrev N_call_bounds : List Str := ["web", "k", "called", "most", "v"]
abbrev s_call_bounds : Stmt := top 49
theorem sc_call_bounds : FnScope N_call_bounds ["web", "k", "called", "most"] (defScope s_call_bounds) := ⟨rfl, rfl, rfl, by decide +kernel, rfl, by decide +kernel, by decide +kernel⟩
def t_call_bounds (K : Frag) : TS := (tSeq (tFor (iSeq K (tVar 2)) (gName 4) (tDrop (tFn (sp_need_moving K) (tCons (tVar 0) (tCons (tVar 4) tNil)))))
    (tDrop (tFn (sp_need_up_to K) (tCons (tVar 1) (tCons (tVar 3) (tCons (tC (.str "k")) tNil))))))
section
variable {w : World} {K : Frag} {mg : Str → Option Value} {vs : List V} {H : Hp} {Q : VK} {E : XK}
theorem pure_call_bounds (T : Txt w K mg) (h : sp_call_bounds4 K vs H Q E) : t_call_bounds K (E1 Q) (start N_call_bounds vs) H := by
  obtain ⟨a, W, A, k, c, C, l, m, rfl, hw, hc, hkm, q⟩ := h
  refine q_forA (ea_of (ev_var rfl) hc.sq) fun p H2 e2 hs2 => ⟨fun i σ' H' => (∃ v, σ' = [some (.ref a), some (.int k), some (.ref c), some (.int m), v]) ∧ Ex H2 H', ⟨⟨_, rfl⟩, Ex.refl _⟩, fun i σ' H' pc => Keep.ex pc.2, ?_, ?_⟩
  · rintro i x σ' H' hi ⟨⟨v, rfl⟩, e3⟩
    obtain ⟨n, hn, rfl⟩ := intV_at hi
    obtain ⟨h0, h1, h2⟩ := hc.ok n ((hc.mem n).mp (List.mem_of_getElem? hn))
    exact s_drop (ev_fn (ea_cons (ev_var rfl) (ea_cons (ev_var rfl) ea_nil)) (spv_need_moving (hw.mono (e2.trans e3)) h0 h1 h2)) fun H3 e4 => ⟨⟨_, rfl⟩, e3.trans e4⟩
  · rintro σ' H' ⟨⟨v, rfl⟩, e3⟩
    exact s_drop (ev_fn (ea_cons (ev_var rfl) (ea_cons (ev_var rfl) (ea_cons ev_c ea_nil))) (spv_need_up_to hkm)) fun H3 e4 => q H3 ((e2.trans e3).trans e4)
end
theorem d_call_bounds {P : Program} {w : World} {K : Frag} {mg : Str → Option Value} {base : Heap} (T : Txt w K mg) {f : Addr} {cdv : Value} {A : Around} {outer : List Env} {s : Shared} {H : Hp} {E : XK} (hr : Room 3 (A.deeper (envOfC "call_bounds" (defScope s_call_bounds) s.heap.objs.size f cdv))) :
    PSs (cxOf CX0 P w K mg base N_call_bounds "call_bounds" (defScope s_call_bounds) f cdv A outer s H E).nox (defBody s_call_bounds) (t_call_bounds K) := by
  exact (pss_cons (ps_for PassesOwn.never rfl (pi_seq (pv 2)) (pg_name (i := 4) sc_call_bounds.nd rfl (Or.inl rfl)) (pss_one (ps_expr (pe_f (ok_need_moving T) hr (by decide) (by rfl) (pa_cons (pv 0) (pa_cons (pv 4) pa_nil))))))
    (pss_one (ps_expr (pe_f (ok_need_up_to T) hr (by decide) (by rfl) (pa_cons (pv 1) (pa_cons (pv 3) (pa_cons pe_str pa_nil)))))))
theorem okr_call_bounds {P : Program} {w : World} {K : Frag} {mg : Str → Option Value} {base : Heap} (T : Txt w K mg) : ∃ fd, FunD K "call_bounds" "call_bounds" (defArgs s_call_bounds) (defBody s_call_bounds) (defScope s_call_bounds) [(.int 60 : V)] [] (He.ga K "call_bounds") fd ∧ FnOk P w K mg base CX0 4 (He.ga K "call_bounds") fd ["web", "k", "called", "most"] (sp_call_bounds4 K) := by
  obtain ⟨fd, F⟩ := T.def_ (d := xf_call_bounds) (memOf 36 rfl) rfl
  refine ⟨fd, F, F.ok sc_call_bounds (fun vs H Q E h => by obtain ⟨a, W, A, k, c, C, l, m, rfl, _⟩ := h; rfl) fun cdv A outer s H vs Q E hr h => ⟨t_call_bounds K, (d_call_bounds T hr).nox, pure_call_bounds T h⟩⟩
theorem ok_call_bounds4 {P : Program} {w : World} {K : Frag} {mg : Str → Option Value} {base : Heap} (T : Txt w K mg) : GF P w K mg base "call_bounds" 4 (sp_call_bounds4 K) := by
  obtain ⟨fd, F, G⟩ := okr_call_bounds (P := P) (base := base) T
  obtain ⟨ds, hd, hb⟩ := F.binds1 (ps := ["web", "k", "called", "most"]) 4 1 (fun z => nomatch z) rfl (fun T kV doc pm an cdv ct us its hu hi => by
    match us, hu, its, hi with
    | [_, _, _, _], _, [d0], _ => exact ⟨_, rfl, rfl⟩)
  · refine ⟨((G.raw hb hd).imp fun vs H Q E h => ?_), F.kp, T.glo (memOf 29 rfl)⟩
    show sp_call_bounds4 K (vs ++ []) H Q E
    rw [List.append_nil]
    exact h
theorem ok_call_bounds {P : Program} {w : World} {K : Frag} {mg : Str → Option Value} {base : Heap} (T : Txt w K mg) : GF P w K mg base "call_bounds" 4 (sp_call_bounds K) := by
  obtain ⟨fd, F, G⟩ := okr_call_bounds (P := P) (base := base) T
  obtain ⟨ds, hd, hb⟩ := F.binds1 (ps := ["web", "k", "called", "most"]) 3 0 (fun z => nomatch z) rfl (fun T kV doc pm an cdv ct us its hu hi => by
    match us, hu, its, hi with
    | [_, _, _], _, [d0], _ => exact ⟨_, rfl, rfl⟩)
  · exact ⟨G.raw hb hd, F.kp, T.glo (memOf 29 rfl)⟩
theorem spv_call_bounds4 {K : Frag} {H : Hp} {a c : Addr} {W : Wb} {A : WA} {k m : Int} {C : Int → Bool} {l : List Int} (hw : WebAt K H a W A) (hc : CAt K H c W C l) (h : k ≤ m) : SpV (sp_call_bounds4 K) [.ref a, .int k, .ref c, .int m] H .non := fun H1 e Q q E => ⟨a, W, A, k, c, C, l, m, rfl, hw.mono e, hc.mono e, h, fun H2 e2 => q H2 e2⟩
theorem spv_call_bounds {K : Frag} {H : Hp} {a c : Addr} {W : Wb} {A : WA} {k : Int} {C : Int → Bool} {l : List Int} (hw : WebAt K H a W A) (hc : CAt K H c W C l) (h : k ≤ 60) : SpV (sp_call_bounds K) [.ref a, .int k, .ref c] H .non := spv_call_bounds4 hw hc h
end Pw
end

section
set_option maxRecDepth 100000
set_option maxHeartbeats 4000000
/-! Loops over what stands while a list changes; items of int lists; rows set. -/
namespace Pw
open PySem PySem.Spec L2 Evl StX PwS SlX
open PyProof.Rows hiding St
section
variable {K : Frag} {σ : L2.St} {H H0 : Hp} {ta tb te tl : TE} {tu tz : TS} {D : Ends} {p : Addr} {xs : List V} {g : TG}
/-- for x in xs, xs stands in H0 -/
theorem s_forB (h : Ev tl σ H (.ref p)) (hs : SqA K H0 p xs) (Pv : Nat → L2.St → Hp → Prop) (h0 : ∀ H1, Ex H H1 → Pv 0 σ H1) (hl : ∀ i σ' H', Pv i σ' H' → Ex H0 H')
    (ht : ∀ i x σ' H', xs[i]? = some x → Pv i σ' H' → g x σ' H' fun σ2 H2 => tu { D with nx := Pv (i + 1), ct := Pv (i + 1), bk := D.nx } σ2 H2) (hd : ∀ σ' H', Pv xs.length σ' H' → D.nx σ' H') : tFor (iSeq K tl) g tu D σ H :=
  h H (Ex.refl H) _ fun H1 e => ⟨p, rfl, by
    rcases hs with hs | hs
    · exact .inl ⟨⟨_, ex_l (hl 0 σ H1 (h0 H1 e)) hs⟩, for_list (K := K) (a := p) (xs := xs) Pv (h0 H1 e) (fun i σ' H' _ pc => ex_l (hl i σ' H' pc) hs) ht hd⟩
    · exact .inr ⟨⟨_, ex_t (hl 0 σ H1 (h0 H1 e)) hs⟩, for_tup (K := K) (a := p) (xs := xs) Pv (h0 H1 e) (fun i σ' H' _ pc => ex_t (hl i σ' H' pc) hs) ht hd⟩⟩
theorem q_forB (h : Ev tl σ H (.ref p)) (hs : SqA K H0 p xs) (Pv : Nat → L2.St → Hp → Prop) (h0 : ∀ H1, Ex H H1 → Pv 0 σ H1) (hl : ∀ i σ' H', Pv i σ' H' → Ex H0 H')
    (ht : ∀ i x σ' H', xs[i]? = some x → Pv i σ' H' → g x σ' H' fun σ2 H2 => tu { D with nx := Pv (i + 1), ct := Pv (i + 1), bk := tz D } σ2 H2) (hd : ∀ σ' H', Pv xs.length σ' H' → tz D σ' H') : tSeq (tFor (iSeq K tl) g tu) tz D σ H :=
  s_forB (D := { D with nx := tz D }) h hs Pv h0 hl ht hd
/-- for x in a list that the word of the loop tells -/
theorem s_forC (h : Ev tl σ H (.ref p)) (Pv : Nat → L2.St → Hp → Prop) (h0 : ∀ H1, Ex H H1 → Pv 0 σ H1) (hl : ∀ i σ' H', Pv i σ' H' → H' p = some (.lst xs))
    (ht : ∀ i x σ' H', xs[i]? = some x → Pv i σ' H' → g x σ' H' fun σ2 H2 => tu { D with nx := Pv (i + 1), ct := Pv (i + 1), bk := D.nx } σ2 H2) (hd : ∀ σ' H', Pv xs.length σ' H' → D.nx σ' H') : tFor (iSeq K tl) g tu D σ H :=
  h H (Ex.refl H) _ fun H1 e => ⟨p, rfl, .inl ⟨⟨_, sq_of (hl 0 σ H1 (h0 H1 e))⟩, for_list (K := K) (a := p) (xs := xs) Pv (h0 H1 e) (fun i σ' H' _ pc => sq_of (hl i σ' H' pc)) ht hd⟩⟩
theorem q_forC (h : Ev tl σ H (.ref p)) (Pv : Nat → L2.St → Hp → Prop) (h0 : ∀ H1, Ex H H1 → Pv 0 σ H1) (hl : ∀ i σ' H', Pv i σ' H' → H' p = some (.lst xs))
    (ht : ∀ i x σ' H', xs[i]? = some x → Pv i σ' H' → g x σ' H' fun σ2 H2 => tu { D with nx := Pv (i + 1), ct := Pv (i + 1), bk := tz D } σ2 H2) (hd : ∀ σ' H', Pv xs.length σ' H' → tz D σ' H') : tSeq (tFor (iSeq K tl) g tu) tz D σ H :=
  s_forC (D := { D with nx := tz D }) h Pv h0 hl ht hd
theorem s_setR {l : Addr} {n : Nat} {f : Int → Int} {j x : Int} (hl : H l = some (.lst (rowV n f))) (h : Ev te σ H (.int x)) (ho : Ev ta σ H (.ref l)) (hi : Ev tb σ H (.int j)) (h0 : 0 ≤ j) (h1 : j < n)
    (k : ∀ H1, Ex H H1 → D.nx σ (upd H1 l (.lst (rowV n (setF f j x))))) : tAsg te (gSub ta tb rSetL) D σ H := by
  have e : ((j.toNat : Nat) : Int) = j := Int.toNat_of_nonneg h0
  refine s_setL (j := j.toNat) hl h ho (by rw [e]; exact hi) (by rw [rowV_len]; omega) fun H1 e1 => ?_
  rw [rowV_set h0 h1]
  exact k H1 e1
theorem q_setR {l : Addr} {n : Nat} {f : Int → Int} {j x : Int} (hl : H l = some (.lst (rowV n f))) (h : Ev te σ H (.int x)) (ho : Ev ta σ H (.ref l)) (hi : Ev tb σ H (.int j)) (h0 : 0 ≤ j) (h1 : j < n)
    (k : ∀ H1, Ex H H1 → tz D σ (upd H1 l (.lst (rowV n (setF f j x))))) : tSeq (tAsg te (gSub ta tb rSetL)) tz D σ H := s_setR (D := { D with nx := tz D }) hl h ho hi h0 h1 k
def nth (l : List Int) (i : Int) : Int := l.getD i.toNat 0
theorem nth_get {l : List Int} {i : Int} (h0 : 0 ≤ i) (h1 : i < l.length) : l[i.toNat]? = some (nth l i) := by
  unfold nth
  rw [List.getD_eq_getElem?_getD]
  cases e : l[i.toNat]? with
  | none => rw [List.getElem?_eq_none_iff] at e; omega
  | some x => rfl
theorem nth_mem {l : List Int} {i : Int} (h0 : 0 ≤ i) (h1 : i < l.length) : nth l i ∈ l := List.mem_of_getElem? (nth_get h0 h1)
theorem atI_int {l : List Int} {i : Int} (h0 : 0 ≤ i) (h1 : i < l.length) : atI (intV l) i = some (.int (nth l i)) := by
  refine atI_of h0 ?_
  unfold intV
  rw [List.getElem?_map, nth_get h0 h1] <;> rfl
theorem nth_map {l : List Int} {g : Int → Int} {i : Int} (h0 : 0 ≤ i) (h1 : i < l.length) : nth (l.map g) i = g (nth l i) := by
  have := nth_get (l := l.map g) h0 (by rw [List.length_map]; exact h1)
  rw [List.getElem?_map, nth_get h0 h1] at this
  exact (Option.some.inj this).symm
theorem ev_ixI {l : List Int} {i : Int} (ha : Ev ta σ H (.ref p)) (hb : Ev tb σ H (.int i)) (hs : SqA K H p (intV l)) (h0 : 0 ≤ i) (h1 : i < l.length) : Ev (tOp (rIx K) ta tb) σ H (.int (nth l i)) := ev_ix ha hb hs (atI_int h0 h1)
theorem mem_nth {l : List Int} {x : Int} (h : x ∈ l) : ∃ i : Int, 0 ≤ i ∧ i < l.length ∧ nth l i = x := by
  obtain ⟨i, hi⟩ := List.mem_iff_getElem?.mp h
  have hl := (List.getElem?_eq_some_iff.mp hi).1
  refine ⟨(i : Int), by omega, by omega, ?_⟩
  have := nth_get (l := l) (i := (i : Int)) (by omega) (by omega)
  rw [Int.toNat_natCast, hi] at this
  exact (Option.some.inj this).symm
theorem take_more {α : Type} {l : List α} {i : Nat} {x : α} (h : l[i]? = some x) : l.take (i + 1) = l.take i ++ [x] := by
  rw [List.take_add_one, h]
  rfl
theorem filter_len {l : List Int} {f : Int → Bool} {n : Nat} (h : l.length ≤ n) : (l.filter f).length ≤ n := Nat.le_trans (List.length_filter_le _ _) h
end
end Pw
end

section
set_option maxRecDepth 100000
set_option maxHeartbeats 4000000
/-! Rounds. -/
namespace Pw
open PySem PySem.Spec L2 Evl StX PwS SlX
open PyProof.Rows hiding St
theorem spx_due_row {K : Frag} {H : Hp} {a : Addr} {n : Nat} {d : Int → Due} {k : Int} (h : DuesV K H a n d) (hn : n ≤ 60) :
    SpX (sp_due_row K) [.ref a, .int k] H (fun y H' => ∃ p, y = .ref p ∧ SqT K H' p (rowV n fun v => dueAt (d v) (k + 1))) := fun H1 e Q q E => ⟨a, n, d, k, rfl, h.mono e, hn, fun p H2 e2 hp => q _ H2 e2 ⟨p, rfl, hp⟩⟩
def mvl (W : Wb) : List Int := (ran W.n).filter W.mov
theorem mem_mvl {W : Wb} {v : Int} : v ∈ mvl W ↔ 0 ≤ v ∧ v < W.n ∧ W.mov v = true := by
  unfold mvl
  rw [List.mem_filter, mem_ran]
  exact ⟨fun h => ⟨h.1.1, h.1.2, h.2⟩, fun h => ⟨⟨h.1, h.2.1⟩, h.2.2⟩⟩
theorem mvl_len (W : Wb) : (mvl W).length ≤ W.n := filter_len (Nat.le_of_eq (ran_len W.n))
/-- the row while the moving stands are taken in order -/
def fillF (W : Wb) (C : Int → Bool) (K : Int) (X top : Int → Int) (l : List Int) : Int → Int := fun v => if v ∈ l then (if C v = true then price W X v else top v) else dueAt (W.due v) K
theorem fillF_more {W : Wb} {C : Int → Bool} {K : Int} {X top : Int → Int} {l : List Int} {x : Int} (v : Int) : setF (fillF W C K X top l) x (if C x = true then price W X x else top x) v = fillF W C K X top (l ++ [x]) v := by
  unfold setF fillF
  by_cases e : v = x
  · subst e
    rw [if_pos rfl, if_pos (List.mem_append_right _ (List.mem_singleton.mpr rfl))]
  · rw [if_neg e]
    by_cases m : v ∈ l
    · rw [if_pos m, if_pos (List.mem_append_left _ m)]
    · rw [if_neg m, if_neg fun z => by
        rcases List.mem_append.mp z with z | z
        · exact m z
        · exact e (List.mem_singleton.mp z)]
/-- .. while some stands have taken their prices -/
def partF (W : Wb) (f : Int → Int) (l : List Int) : Int → Int := fun v => if v ∈ l then price W f v else f v
theorem partF_more {W : Wb} {f : Int → Int} {l : List Int} {x : Int} (v : Int) : setF (partF W f l) x (price W f x) v = partF W f (l ++ [x]) v := by
  unfold setF partF
  by_cases e : v = x
  · subst e
    rw [if_pos rfl, if_pos (List.mem_append_right _ (List.mem_singleton.mpr rfl))]
  · rw [if_neg e]
    by_cases m : v ∈ l
    · rw [if_pos m, if_pos (List.mem_append_left _ m)]
    · rw [if_neg m, if_neg fun z => by
        rcases List.mem_append.mp z with z | z
        · exact m z
        · exact e (List.mem_singleton.mp z)]
def frl (W : Wb) (C : Int → Bool) : List Int := (mvl W).filter fun v => !C v
theorem mem_frl {W : Wb} {C : Int → Bool} {v : Int} : v ∈ frl W C ↔ 0 ≤ v ∧ v < W.n ∧ fre W C v = true := by
  unfold frl fre
  rw [List.mem_filter, mem_mvl, Bool.and_eq_true]
  exact ⟨fun h => ⟨h.1.1, h.1.2.1, h.1.2.2, h.2⟩, fun h => ⟨⟨h.1, h.2.1, h.2.2.1⟩, h.2.2.2⟩⟩
theorem frl_len (W : Wb) (C : Int → Bool) : (frl W C).length ≤ W.n := filter_len (mvl_len W)
/-- which of the free fall -/
def fall (W : Wb) (C : Int → Bool) (f : Int → Int) : List Int := (ran (frl W C).length).filter fun i => decide (nth ((frl W C).map (price W f)) i < f (nth (frl W C) i))
theorem mem_fall {W : Wb} {C : Int → Bool} {f : Int → Int} {i : Int} : i ∈ fall W C f ↔ (0 ≤ i ∧ i < (frl W C).length) ∧ price W f (nth (frl W C) i) < f (nth (frl W C) i) := by
  unfold fall
  rw [List.mem_filter, mem_ran, decide_eq_true_iff]
  constructor
  · rintro ⟨h, h2⟩
    rw [nth_map h.1 h.2] at h2
    exact ⟨h, h2⟩
  · rintro ⟨h, h2⟩
    rw [← nth_map (g := price W f) h.1 h.2] at h2
    exact ⟨h, h2⟩
theorem fall_in {W : Wb} {C : Int → Bool} {f : Int → Int} {v : Int} : v ∈ (fall W C f).map (nth (frl W C)) ↔ 0 ≤ v ∧ v < W.n ∧ fre W C v = true ∧ price W f v < f v := by
  rw [List.mem_map]
  constructor
  · rintro ⟨i, hi, rfl⟩
    have h := mem_fall.mp hi
    have h2 := mem_frl.mp (nth_mem h.1.1 h.1.2)
    exact ⟨h2.1, h2.2.1, h2.2.2, h.2⟩
  · rintro ⟨h0, h1, h2, h3⟩
    obtain ⟨i, i0, i1, rfl⟩ := mem_nth (mem_frl.mpr ⟨h0, h1, h2⟩)
    exact ⟨i, mem_fall.mpr ⟨⟨i0, i1⟩, h3⟩, rfl⟩
def sp_round_under (K : Frag) : Sp := fun vs H Q _ => ∃ a W A k c C l r X t top, vs = [.ref a, .int k, .ref c, .ref r, .ref t] ∧ WebAt K H a W A ∧ CAt K H c W C l ∧ SqA K H r (rowV W.n X) ∧ SqA K H t (rowV W.n top) ∧ 0 ≤ k ∧
  (∀ v : Int, 0 ≤ v → v < W.n → 0 ≤ X v) ∧ (∀ v : Int, 0 ≤ v → v < W.n → 0 ≤ top v) ∧ ∀ p H' Y, Ex H H' → SqT K H' p (rowV W.n Y) → IsRound W C (k + 1) X top Y → Q (.ref p) H'
/-! round_under -/
abbrev N_round_under : List Str := ["web", "k", "called", "row", "top", "found", "free", "v", "prices", "falling_now", "at"]
abbrev s_round_under : Stmt := top 50
theorem sc_round_under : FnScope N_round_under ["web", "k", "called", "row", "top"] (defScope s_round_under) := ⟨rfl, rfl, rfl, by decide +kernel, rfl, by decide +kernel, by decide +kernel⟩
def t_round_under (K : Frag) : TS := (tSeq (tAsg (tCB (rListS K) (tCons (tFn (sp_due_row K) (tCons (tPW_dues K (tVar 0)) (tCons (tVar 1) tNil))) tNil)) (gName 5))
    (tSeq (tAsg (tLst tNil) (gName 6))
    (tSeq (tFor (iSeq K (tPW_moving K (tVar 0))) (gName 7) (tIfS (tTest (tOp (rIn K false) (tVar 7) (tVar 2))) (tAsg (tFn (sp_price_at K) (tCons (tVar 0) (tCons (tVar 1) (tCons (tVar 3) (tCons (tVar 7) tNil))))) (gSub (tVar 5) (tVar 7) rSetL)) (tSeq (tAsg (tOp (rIx K) (tVar 4) (tVar 7)) (gSub (tVar 5) (tVar 7) rSetL))
    (tDrop (tBM K "list" rAppend (tVar 6) (tCons (tVar 7) tNil))))))
    (tWhile (tB (tC (.bl true))) (tSeq (tAsg (tLc (iSeq K (tVar 6)) (gName 7) tYes (tFn (sp_price_at K) (tCons (tVar 0) (tCons (tVar 1) (tCons (tVar 5) (tCons (tVar 7) tNil))))) [7]) (gName 8))
    (tSeq (tAsg (tLc (iRng1 (tCons (tCB (rLenS K) (tCons (tVar 6) tNil)) tNil)) (gName 10) (tTest (tOp rLt (tOp (rIx K) (tVar 8) (tVar 10)) (tOp (rIx K) (tVar 5) (tOp (rIx K) (tVar 6) (tVar 10))))) (tVar 10) [10]) (gName 9))
    (tSeq (tIfS (tNot (tTru K (tVar 9))) (tRet (tCB (rTupS K) (tCons (tVar 5) tNil))) tNext)
    (tFor (iSeq K (tVar 9)) (gName 10) (tAsg (tOp (rIx K) (tVar 8) (tVar 10)) (gSub (tVar 5) (tOp (rIx K) (tVar 6) (tVar 10)) rSetL))))))))))
section
variable {w : World} {K : Frag} {mg : Str → Option Value} {vs : List V} {H : Hp} {Q : VK} {E : XK}
theorem len_round_under (h : sp_round_under K vs H Q E) : vs.length = 5 := by obtain ⟨a, W, A, k, c, C, l, r, X, t, top, rfl, _⟩ := h; rfl
theorem pure_round_under (T : Txt w K mg) (h : sp_round_under K vs H Q E) : t_round_under K (E1 Q) (start N_round_under vs) H := by
  obtain ⟨a, W, A, k, c, C, l, r, X, t, top, rfl, hw, hc, hr, ht, hk, hX, htop, q⟩ := h
  have hn := hw.n60
  have hfl := frl_len W C
  refine q_asgL (el_listX (xs := rowV W.n fun v => dueAt (W.due v) (k + 1)) (evx_fn (ea_cons (ev_Wdues (ev_var rfl) hw) (ea_cons (ev_var rfl) ea_nil)) (spx_due_row hw.hd hn)) (fun y H1 e ⟨p, ey, hp⟩ => ⟨p, ey, .t hp⟩)) fun pf H1 nf e1 hpf => ?_
  refine q_asgL (el_lst (vs := []) ea_nil (by decide)) fun pr H2 nr e2 hpr => ?_
  have hne : pf ≠ pr := fun z => by rw [← z, hpf] at nr; cases nr
  have nr := fresh_back e1 nr
  refine q_forB (H0 := H) (xs := intV (mvl W)) (ev_Wmoving (ev_var rfl) (hw.mono (e1.trans e2))) hw.hv (fun i σ' H' => (∃ v, σ' = [some (.ref a), some (.int k), some (.ref c), some (.ref r), some (.ref t), some (.ref pf), some (.ref pr), v, none, none, none]) ∧ Ex H H' ∧
    H' pf = some (.lst (rowV W.n (fillF W C (k + 1) X top ((mvl W).take i)))) ∧ H' pr = some (.lst (intV (((mvl W).take i).filter fun v => !C v)))) ?_ (fun i σ' H' h => h.2.1) ?_ ?_
  · intro H3 e3
    refine ⟨⟨_, rfl⟩, (e1.trans e2).trans e3, ?_, e3 _ _ hpr⟩
    rw [e3 _ _ (e2 _ _ hpf)]
    rfl
  · rintro i x σ' H' hi ⟨⟨v, rfl⟩, e3, h1, h2⟩
    obtain ⟨n, hn2, rfl⟩ := intV_at hi
    obtain ⟨b0, b1, b2⟩ := mem_mvl.mp (List.mem_of_getElem? hn2)
    have hz : (((mvl W).take i).filter fun v => !C v).length < 100000 := by
      have := mvl_len W
      have := filter_len (f := fun v => !C v) (Nat.le_trans (List.length_take_le' i (mvl W)) this)
      omega
    refine s_if (et_test (ev_inC (ev_var rfl) (ev_var rfl) (hc.mono e3))) (fun c1 H4 e4 => ?_) fun c1 H4 e4 => ?_
    · refine s_setR (e4 _ _ h1) (ev_fn (ea_cons (ev_var rfl) (ea_cons (ev_var rfl) (ea_cons (ev_var rfl) (ea_cons (ev_var rfl) ea_nil)))) (spv_price_at (hw.mono (e3.trans e4)) (hr.mono (e3.trans e4)) b0 b1 b2)) (ev_var rfl) (ev_var rfl) b0 b1 fun H5 e5 => ?_
      refine ⟨⟨_, rfl⟩, Ex.mut (e3.trans (e4.trans e5)) nf, ?_, ?_⟩
      · rw [upd_same, take_more hn2]
        congr 2
        refine rowV_congr fun v _ _ => ?_
        have := fillF_more (W := W) (C := C) (K := k + 1) (X := X) (top := top) (l := (mvl W).take i) (x := n) v
        rw [if_pos c1] at this
        exact this
      · rw [upd_ne hne.symm, e5 _ _ (e4 _ _ h2), take_more hn2, List.filter_append]
        congr 3
        simp [c1]
    · refine q_setR (e4 _ _ h1) (ev_ixR (ev_var rfl) (ev_var rfl) (ht.mono (e3.trans e4)) b0 b1) (ev_var rfl) (ev_var rfl) b0 b1 fun H5 e5 => ?_
      refine s_app (l := pr) (xs := intV (((mvl W).take i).filter fun v => !C v)) ?_ (ev_var rfl) (ev_var rfl) (by rw [intV_len]; exact hz) fun H6 e6 => ?_
      · rw [upd_ne hne.symm]
        exact e5 _ _ (e4 _ _ h2)
      refine ⟨⟨_, rfl⟩, Ex.mut ((Ex.mut (e3.trans (e4.trans e5)) nf).trans e6) nr, ?_, ?_⟩
      · rw [upd_ne hne, e6 _ _ upd_same, take_more hn2]
        congr 2
        refine rowV_congr fun v _ _ => ?_
        have := fillF_more (W := W) (C := C) (K := k + 1) (X := X) (top := top) (l := (mvl W).take i) (x := n) v
        rw [if_neg (by rw [c1]; exact Bool.false_ne_true)] at this
        exact this
      · rw [upd_same, take_more hn2, List.filter_append]
        congr 2
        unfold intV
        rw [List.map_append]
        simp [c1]
  · rintro σ' H' ⟨⟨v, rfl⟩, e3, h1, h2⟩
    rw [intV_len, List.take_length] at h1 h2
    have ru : RU W C (k + 1) X top (fillF W C (k + 1) X top (mvl W)) := RU.start hw.ok (by omega) hX htop fun v b0 b1 => by
      unfold fillF
      by_cases m : W.mov v = true
      · rw [if_pos (mem_mvl.mpr ⟨b0, b1, m⟩), if_pos m]
      · rw [if_neg fun z => m (mem_mvl.mp z).2.2, if_neg m]
    refine s_while (fun m σ' H' => ∃ f, m = sumTo W.n f ∧ RU W C (k + 1) X top f ∧ Ex H H' ∧ H' pf = some (.lst (rowV W.n f)) ∧ H' pr = some (.lst (intV (frl W C))) ∧
      ∃ v7 v8 v9 v10, σ' = [some (.ref a), some (.int k), some (.ref c), some (.ref r), some (.ref t), some (.ref pf), some (.ref pr), v7, v8, v9, v10]) (sumTo W.n (fillF W C (k + 1) X top (mvl W)))
      ⟨_, rfl, ru, e3, h1, h2, _, _, _, _, rfl⟩ ?_
    rintro m σ' H4 ⟨f, rfl, ru, e4, g1, g2, v7, v8, v9, v10, rfl⟩
    refine ⟨true, et_B ev_c, fun _ H5 e5 => ⟨fun σ' H' => ∃ f', f' = stepF W C f ∧ sumTo W.n f' < sumTo W.n f ∧ RU W C (k + 1) X top f' ∧ Ex H H' ∧ H' pf = some (.lst (rowV W.n f')) ∧ H' pr = some (.lst (intV (frl W C))) ∧
      ∃ v7 v8 v9 v10, σ' = [some (.ref a), some (.int k), some (.ref c), some (.ref r), some (.ref t), some (.ref pf), some (.ref pr), v7, v8, v9, v10],
      fun σ2 H2 ⟨f', _, a1, a2, a3, a4, a5, a6⟩ => ⟨_, a1, f', rfl, a2, a3, a4, a5, a6⟩, ?_⟩, fun z => nomatch z⟩
    have hw5 := hw.mono (e4.trans e5)
    refine q_asgL (el_lcM (l := frl W C) (g := price W f) (ea_of (ev_var rfl) (.lst (e5 _ _ g2))) (by omega) (fun _ => rfl) (fun x H6 e6 hx => ?_)) fun pp H6 np e6 hpp => ?_
    · obtain ⟨b0, b1, b2⟩ := mem_frl.mp hx
      exact ev_fn (ea_cons (ev_var rfl) (ea_cons (ev_var rfl) (ea_cons (ev_var rfl) (ea_cons (ev_var rfl) ea_nil)))) (spv_price_at (hw5.mono e6) (.lst (e6 _ _ (e5 _ _ g1))) b0 b1 (fre_iff.mp b2).1)
    have g1' := e6 _ _ (e5 _ _ g1)
    have g2' := e6 _ _ (e5 _ _ g2)
    refine q_asgL (el_lrF (n := (frl W C).length) (p := fun i => decide (nth ((frl W C).map (price W f)) i < f (nth (frl W C) i))) (ea_cons ?_ ea_nil) (by omega) (fun _ => rfl) (fun i H7 e7 i0 i1 => ?_) (fun _ _ => ev_var rfl)) fun pw H7 nw e7 hpw => ?_
    · have := ev_len' (K := K) (ta := tVar 6) (σ := [some (.ref a), some (.int k), some (.ref c), some (.ref r), some (.ref t), some (.ref pf), some (.ref pr), v7, some (.ref pp), v9, v10]) (ev_var rfl) (SqA.lst g2')
      rw [intV_len] at this
      exact this
    · have b := mem_frl.mp (nth_mem (l := frl W C) i0 i1)
      refine et_test (ev_I (ev_ixI (ev_var rfl) (ev_var rfl) (.lst (e7 _ _ hpp)) i0 (by rw [List.length_map]; exact i1)) (ev_ixR (ev_var rfl) (ev_ixI (ev_var rfl) (ev_var rfl) (.lst (e7 _ _ g2')) i0 i1) (.lst (e7 _ _ g1')) b.1 b.2.1))
    have hfa : (ran (frl W C).length).filter (fun i => decide (nth ((frl W C).map (price W f)) i < f (nth (frl W C) i))) = fall W C f := rfl
    rw [hfa] at hpw
    have e7' := (e4.trans e5).trans (e6.trans e7)
    refine q_when (et_not (et_tru (ev_var rfl) (.lst hpw))) (fun hb H8 e8 => ?_) fun hb H8 e8 => ?_
    · refine s_retX (evx_tupA (ev_var rfl) (.lst (e8 _ _ (e7 _ _ g1')))) fun y H9 e9 ⟨p, ey, hp⟩ => ?_
      subst ey
      refine q p H9 f (e7'.trans (e8.trans e9)) hp (ru.stop fun v b0 b1 b2 => ?_)
      have hemp : fall W C f = [] := by
        cases e : fall W C f with
        | nil => rfl
        | cons x l => rw [e] at hb; cases hb
      by_cases hlt : price W f v < f v
      · have := fall_in.mpr ⟨b0, b1, b2, hlt⟩
        rw [hemp] at this
        cases this
      · omega
    · have hnf : pf ≠ pw := fun z => by rw [← z, g1'] at nw; cases nw
      have hpf9 : pf ≠ pp := fun z => by rw [← z, e5 _ _ g1] at np; cases np
      refine s_forC (xs := intV (fall W C f)) (ev_var rfl) (fun i σ' H' => (∃ v, σ' = [some (.ref a), some (.int k), some (.ref c), some (.ref r), some (.ref t), some (.ref pf), some (.ref pr), v7, some (.ref pp), some (.ref pw), v]) ∧ Ex H H' ∧
        H' pf = some (.lst (rowV W.n (partF W f (((fall W C f).take i).map (nth (frl W C)))))) ∧ H' pr = some (.lst (intV (frl W C))) ∧ H' pp = some (.lst (intV ((frl W C).map (price W f)))) ∧ H' pw = some (.lst (intV (fall W C f)))) ?_ (fun i σ' H' h => h.2.2.2.2.2) ?_ ?_
      · intro H9 e9
        have e79 := e7.trans (e8.trans e9)
        refine ⟨⟨_, rfl⟩, e7'.trans (e8.trans e9), ?_, e79 _ _ g2', e79 _ _ hpp, (e8.trans e9) _ _ hpw⟩
        rw [e79 _ _ g1']
        rfl
      · rintro i x σ' H9 hi ⟨⟨v, rfl⟩, e9, a1, a2, a3, a4⟩
        obtain ⟨n, hn2, rfl⟩ := intV_at hi
        obtain ⟨⟨i0, i1⟩, i2⟩ := mem_fall.mp (List.mem_of_getElem? hn2)
        have b := mem_frl.mp (nth_mem (l := frl W C) i0 i1)
        refine s_setR (x := price W f (nth (frl W C) n)) a1 ?_ (ev_var rfl) (ev_ixI (ev_var rfl) (ev_var rfl) (.lst a2) i0 i1) b.1 b.2.1 fun H10 e10 => ?_
        · rw [← nth_map (g := price W f) i0 i1]
          exact ev_ixI (ev_var rfl) (ev_var rfl) (.lst a3) i0 (by rw [List.length_map]; exact i1)
        · refine ⟨⟨_, rfl⟩, Ex.mut (e9.trans e10) nf, ?_, ?_, ?_, ?_⟩
          · rw [upd_same, take_more hn2, List.map_append]
            congr 2
            exact rowV_congr fun v _ _ => partF_more v
          · rw [upd_ne hne.symm]
            exact e10 _ _ a2
          · rw [upd_ne hpf9.symm]
            exact e10 _ _ a3
          · rw [upd_ne hnf.symm]
            exact e10 _ _ a4
      · rintro σ' H9 ⟨⟨v, rfl⟩, e9, a1, a2, a3, a4⟩
        have eqf : ∀ v : Int, 0 ≤ v → v < W.n → partF W f ((fall W C f).map (nth (frl W C))) v = stepF W C f v := fun v b0 b1 => by
          unfold partF stepF
          by_cases m : fre W C v = true ∧ price W f v < f v
          · rw [if_pos m, if_pos (fall_in.mpr ⟨b0, b1, m.1, m.2⟩)]
          · rw [if_neg m, if_neg fun z => m (fall_in.mp z).2.2]
        rw [intV_len, List.take_length, rowV_congr eqf] at a1
        refine ⟨stepF W C f, rfl, RU.sum hw.ok ru ?_, RU.step hw.ok ru, e9, a1, a2, _, _, _, _, rfl⟩
        cases e : fall W C f with
        | nil => rw [e] at hb; cases hb
        | cons x l =>
          have := fall_in.mp (List.mem_map_of_mem (f := nth (frl W C)) (show x ∈ fall W C f by rw [e]; exact List.mem_cons_self))
          exact ⟨_, this⟩
end
theorem d_round_under {P : Program} {w : World} {K : Frag} {mg : Str → Option Value} {base : Heap} (T : Txt w K mg) {f : Addr} {cdv : Value} {A : Around} {outer : List Env} {s : Shared} {H : Hp} {E : XK} (hr : Room 4 (A.deeper (envOfC "round_under" (defScope s_round_under) s.heap.objs.size f cdv))) :
    PSs (cxOf CX0 P w K mg base N_round_under "round_under" (defScope s_round_under) f cdv A outer s H E).nox (defBody s_round_under) (t_round_under K) := by
  exact (pss_cons (ps_set (i := 5) sc_round_under.nd rfl (Or.inr rfl) (pe_callTy call_list_of (by rfl) (T.free (memOf 7 rfl)) b_list (pa_cons (pe_f (ok_due_row T) hr (by decide) (by rfl) (pa_cons (pe_W_dues T (pv 0) hr (by decide)) (pa_cons (pv 1) pa_nil))) pa_nil)))
    (pss_cons (ps_set (i := 6) sc_round_under.nd rfl (Or.inr rfl) (pe_lst pa_nil))
    (pss_cons (ps_for PassesOwn.never rfl (pi_seq (pe_W_moving T (pv 0) hr (by decide))) (pg_name (i := 7) sc_round_under.nd rfl (Or.inl rfl)) (pss_one (ps_if (pt_cmpR op_in_seq (pv 7) (pv 2) (by rfl)) (pss_one (ps_asg (pe_f (ok_price_at T) hr (by decide) (by rfl) (pa_cons (pv 0) (pa_cons (pv 1) (pa_cons (pv 3) (pa_cons (pv 7) pa_nil))))) (pg_sub (pv 5) (pv 7) set_list))) (pss_cons (ps_asg (pe_ix ix_seq (pv 4) (pv 7) (fun _ _ => rfl)) (pg_sub (pv 5) (pv 7) set_list))
    (pss_one (ps_expr (pe_bm PySem.F.plainAttrs_list PySem.F.slot_list_append PySem.F.type_list_append mt_append (pv 6) (pa_cons (pv 7) pa_nil))))))))
    (pss_one (ps_while PassesOwn.never (pt_val pe_bl) (pss_cons (ps_set (i := 8) sc_round_under.nd rfl (Or.inr rfl) (pe_lc (own := [("v", 7)]) (g := gName 7) (tt := tYes) (te := (tFn (sp_price_at K) (tCons (tVar 0) (tCons (tVar 1) (tCons (tVar 5) (tCons (tVar 7) tNil)))))) rfl sc_round_under.nd (pi_seq (pv 6)) (blkOk_by (N := N_round_under) (sc := defScope s_round_under) (by decide +kernel)) (fun _ _ _ _ _ => pg_name (i := 7) sc_round_under.nd rfl (Or.inl rfl)) (fun _ _ _ _ _ => pts_nil) (fun _ _ _ _ _ => (pe_f (ok_price_at T) hr (by decide) (by rfl) (pa_cons (pv 0) (pa_cons (pv 1) (pa_cons (pv 5) (pa_cons (pv 7) pa_nil))))))))
    (pss_cons (ps_setLc (i := 9) (own := [("at", 10)]) (g := gName 10) (tt := (tTest (tOp rLt (tOp (rIx K) (tVar 8) (tVar 10)) (tOp (rIx K) (tVar 5) (tOp (rIx K) (tVar 6) (tVar 10)))))) (te := (tVar 10)) rfl sc_round_under.nd rfl rfl (sw_true rfl rfl rfl (by decide +kernel)) (pi_range1 (by rfl) (T.free (memOf 1 rfl)) (pa_cons (pe_callB call_len_seq (by rfl) (T.free (memOf 0 rfl)) b_len (pa_cons (pv 6) pa_nil)) pa_nil)) (blkOk_by (N := N_round_under) (sc := defScope s_round_under) (by decide +kernel)) (fun _ _ _ _ _ => pg_name (i := 10) sc_round_under.nd rfl (Or.inl rfl)) (fun _ _ _ _ _ => pts_one (pt_cmpR op_lt (pe_ix ix_seq (pv 8) (pv 10) (fun _ _ => rfl)) (pe_ix ix_seq (pv 5) (pe_ix ix_seq (pv 6) (pv 10) (fun _ _ => rfl)) (fun _ _ => rfl)) (nomark _))) (fun _ _ _ _ _ => (pv 10)))
    (pss_cons (ps_if (pt_not (pt_truth (pv 9) (by intro _; rfl))) (pss_one (ps_ret (pe_callTy call_tuple_of (by rfl) (T.free (memOf 6 rfl)) b_tuple (pa_cons (pv 5) pa_nil)))) pss_nil)
    (pss_one (ps_for PassesOwn.never rfl (pi_seq (pv 9)) (pg_name (i := 10) sc_round_under.nd rfl (Or.inl rfl)) (pss_one (ps_asg (pe_ix ix_seq (pv 8) (pv 10) (fun _ _ => rfl)) (pg_sub (pv 5) (pe_ix ix_seq (pv 6) (pv 10) (fun _ _ => rfl)) set_list)))))))))))))
theorem ok_round_under {P : Program} {w : World} {K : Frag} {mg : Str → Option Value} {base : Heap} (T : Txt w K mg) : GF P w K mg base "round_under" 5 (sp_round_under K) := by
  have F := T.def_ (d := xf_round_under) (memOf 37 rfl) rfl
  refine ⟨fnr_mk (k := 4) F sc_round_under (fun _ _ _ _ _ _ us hl => match us, hl with | [_, _, _, _, _], _ => rfl) (fun vs H Q E h => len_round_under h) (fun cdv A outer s H vs Q E hr h => ⟨t_round_under K, d_round_under T hr, pure_round_under T h⟩), ?_, T.glo (memOf 30 rfl)⟩
  obtain ⟨fd, F⟩ := F
  exact F.kp
theorem spx_round_under {K : Frag} {H : Hp} {a c r t : Addr} {W : Wb} {A : WA} {k : Int} {C : Int → Bool} {l : List Int} {X top : Int → Int} (hw : WebAt K H a W A) (hc : CAt K H c W C l) (hr : SqA K H r (rowV W.n X)) (ht : SqA K H t (rowV W.n top)) (hk : 0 ≤ k)
    (hX : ∀ v : Int, 0 ≤ v → v < W.n → 0 ≤ X v) (hT : ∀ v : Int, 0 ≤ v → v < W.n → 0 ≤ top v) : SpX (sp_round_under K) [.ref a, .int k, .ref c, .ref r, .ref t] H (fun y H' => ∃ p Y, y = .ref p ∧ SqT K H' p (rowV W.n Y) ∧ IsRound W C (k + 1) X top Y) :=
  fun H1 e Q q E => ⟨a, W, A, k, c, C, l, r, X, t, top, rfl, hw.mono e, hc.mono e, hr.mono e, ht.mono e, hk, hX, hT, fun p H2 Y e2 hp hy => q _ H2 e2 ⟨p, Y, rfl, hp, hy⟩⟩
def sp_round_of (K : Frag) : Sp := fun vs H Q _ => ∃ a W A k c C l r X, vs = [.ref a, .int k, .ref c, .ref r] ∧ WebAt K H a W A ∧ CAt K H c W C l ∧ SqA K H r (rowV W.n X) ∧ 0 ≤ k ∧
  (∀ v : Int, 0 ≤ v → v < W.n → 0 ≤ X v) ∧ ∀ p H' Y, Ex H H' → SqT K H' p (rowV W.n Y) → IsRound W C (k + 1) X (fun _ => k + 1) Y → Q (.ref p) H'
/-- [x] * n -/
theorem rep_row (n : Nat) (x : Int) : List.replicate n (V.int x) = rowV n fun _ => x := by
  refine List.ext_getElem? fun i => ?_
  by_cases h : i < n
  · rw [rowV_get h, List.getElem?_replicate, if_pos h]
  · rw [List.getElem?_eq_none (by rw [List.length_replicate]; omega), List.getElem?_eq_none (by rw [rowV_len]; omega)]
/-! round_of -/
abbrev N_round_of : List Str := ["web", "k", "called", "row"]
abbrev s_round_of : Stmt := top 51
theorem sc_round_of : FnScope N_round_of ["web", "k", "called", "row"] (defScope s_round_of) := ⟨rfl, rfl, rfl, by decide +kernel, rfl, by decide +kernel, by decide +kernel⟩
def t_round_of (K : Frag) : TS := (tRet (tFn (sp_round_under K) (tCons (tVar 0) (tCons (tVar 1) (tCons (tVar 2) (tCons (tVar 3) (tCons (tOp rRep (tLst (tCons (tOp rAdd (tVar 1) (tC (.int 1))) tNil)) (tPW_size K (tVar 0))) tNil)))))))
theorem el_rep1 {σ : L2.St} {H : Hp} {ta tb : TE} {x : V} {n : Nat} (ha : EvL ta σ H [x]) (hb : ∀ H1, Ex H H1 → Ev tb σ H1 (.int (n : Int))) (hn : n ≤ 100000) : EvL (tOp rRep ta tb) σ H (List.replicate n x) := fun H1 e Q q =>
  ha H1 e _ fun p H2 hp e2 h2 => hb H2 (e.trans e2) H2 (Ex.refl _) _ fun H3 e3 => ⟨p, (n : Int), [x], rfl, rfl, e3 _ _ h2, by omega, by omega, by simpa using sz_of hn, fun p3 hp3 => by
    have e4 : (List.replicate (n : Int).toNat [x]).flatten = List.replicate n x := by
      rw [Int.toNat_natCast]
      induction n with
      | zero => rfl
      | succ n ih => simp [List.replicate_succ]
    rw [e4]
    exact q p3 _ (fresh_back (e2.trans e3) hp3) ((e2.trans e3).trans (Ex.new hp3)) upd_same⟩
section
variable {w : World} {K : Frag} {mg : Str → Option Value} {vs : List V} {H : Hp} {Q : VK} {E : XK}
theorem len_round_of (h : sp_round_of K vs H Q E) : vs.length = 4 := by obtain ⟨a, W, A, k, c, C, l, r, X, rfl, _⟩ := h; rfl
theorem pure_round_of (T : Txt w K mg) (h : sp_round_of K vs H Q E) : t_round_of K (E1 Q) (start N_round_of vs) H := by
  obtain ⟨a, W, A, k, c, C, l, r, X, rfl, hw, hc, hr, hk, hX, q⟩ := h
  have hn := hw.n60
  have hrep := el_rep1 (tb := tPW_size K (tVar 0)) (n := W.n) (el_lst (H := H) (ea_cons (ev_I (σ := start N_round_of [.ref a, .int k, .ref c, .ref r]) (ta := tVar 1) (tb := tC (.int 1)) (g := fun i j => .int (i + j)) (i := k) (j := 1) (ev_var rfl) ev_c) ea_nil) (by show 1 ≤ 100000; decide)) (fun H1 e1 => ev_Wsize (ev_var rfl) (hw.mono e1)) (by omega)
  refine s_retX (evx_fnX (P := fun y H' => ∃ p Y, y = .ref p ∧ SqT K H' p (rowV W.n Y) ∧ IsRound W C (k + 1) X (fun _ => k + 1) Y) (PA := fun vs H1 => ∃ t, vs = [.ref a, .int k, .ref c, .ref r, .ref t] ∧ SqA K H1 t (rowV W.n fun _ => k + 1)) ?_ fun vs H1 e1 ⟨t, ev, ht⟩ => ?_) fun y H1 e1 ⟨p, Y, ey, hp, hy⟩ => ?_
  · exact fun H1 e1 Q q => ev_var rfl H1 e1 _ fun H2 e2 => ev_var rfl H2 (e1.trans e2) _ fun H3 e3 => ev_var rfl H3 ((e1.trans e2).trans e3) _ fun H4 e4 => ev_var rfl H4 (((e1.trans e2).trans e3).trans e4) _ fun H5 e5 =>
      hrep H5 ((((e1.trans e2).trans e3).trans e4).trans e5) _ fun t H6 nt e6 ht => q _ H6 ((((e2.trans e3).trans e4).trans e5).trans e6) ⟨t, rfl, .lst (by rw [ht, rep_row])⟩
  · rw [ev]
    exact spx_round_under (hw.mono e1) (hc.mono e1) (hr.mono e1) ht hk hX fun _ _ _ => by omega
  · subst ey
    exact q p H1 Y e1 hp hy
end
theorem d_round_of {P : Program} {w : World} {K : Frag} {mg : Str → Option Value} {base : Heap} (T : Txt w K mg) {f : Addr} {cdv : Value} {A : Around} {outer : List Env} {s : Shared} {H : Hp} {E : XK} (hr : Room 5 (A.deeper (envOfC "round_of" (defScope s_round_of) s.heap.objs.size f cdv))) :
    PSs (cxOf CX0 P w K mg base N_round_of "round_of" (defScope s_round_of) f cdv A outer s H E).nox (defBody s_round_of) (t_round_of K) := by
  exact (pss_one (ps_ret (pe_f (ok_round_under T) hr (by decide) (by rfl) (pa_cons (pv 0) (pa_cons (pv 1) (pa_cons (pv 2) (pa_cons (pv 3) (pa_cons (pe_op op_rep (pe_lst (pa_cons (pe_op op_add (pv 1) pe_int) pa_nil)) (pe_W_size T (pv 0) hr (by decide))) pa_nil))))))))
theorem ok_round_of {P : Program} {w : World} {K : Frag} {mg : Str → Option Value} {base : Heap} (T : Txt w K mg) : GF P w K mg base "round_of" 6 (sp_round_of K) := by
  have F := T.def_ (d := xf_round_of) (memOf 38 rfl) rfl
  refine ⟨fnr_mk (k := 5) F sc_round_of (fun _ _ _ _ _ _ us hl => match us, hl with | [_, _, _, _], _ => rfl) (fun vs H Q E h => len_round_of h) (fun cdv A outer s H vs Q E hr h => ⟨t_round_of K, d_round_of T hr, pure_round_of T h⟩), ?_, T.glo (memOf 31 rfl)⟩
  obtain ⟨fd, F⟩ := F
  exact F.kp
theorem spx_round_of {K : Frag} {H : Hp} {a c r : Addr} {W : Wb} {A : WA} {k : Int} {C : Int → Bool} {l : List Int} {X : Int → Int} (hw : WebAt K H a W A) (hc : CAt K H c W C l) (hr : SqA K H r (rowV W.n X)) (hk : 0 ≤ k)
    (hX : ∀ v : Int, 0 ≤ v → v < W.n → 0 ≤ X v) : SpX (sp_round_of K) [.ref a, .int k, .ref c, .ref r] H (fun y H' => ∃ p Y, y = .ref p ∧ SqT K H' p (rowV W.n Y) ∧ IsRound W C (k + 1) X (fun _ => k + 1) Y) :=
  fun H1 e Q q E => ⟨a, W, A, k, c, C, l, r, X, rfl, hw.mono e, hc.mono e, hr.mono e, hk, hX, fun p H2 Y e2 hp hy => q _ H2 e2 ⟨p, Y, rfl, hp, hy⟩⟩
end Pw
end

section
set_option maxRecDepth 100000
set_option maxHeartbeats 4000000
/-! The row for ever, ranks and counts. -/
namespace Pw
open PySem PySem.Spec L2 Evl StX PwS SlX
open PyProof.Rows hiding St
section
variable {K : Frag} {σ : L2.St} {H : Hp} {ta tb : TE} {t : TT} {p q : Addr} {xs ys : List V} {P1 P2 : V → Hp → Prop}
theorem ev_pick {b : Bool} {x y : Int} (h : EvT t σ H b) (h1 : Ev ta σ H (.int x)) (h2 : Ev tb σ H (.int y)) : Ev (tIf t ta tb) σ H (.int (if b = true then x else y)) :=
  ev_if h (fun e => by rw [if_pos e]; exact h1) fun e => by rw [if_neg (by rw [e]; exact Bool.false_ne_true)]; exact h2
theorem el_cat (ha : Ev ta σ H (.ref p)) (hp : H p = some (.lst xs)) (hb : Ev tb σ H (.ref q)) (hq : H q = some (.lst ys)) (hz : xs.length + ys.length ≤ 100000) : EvL (tOp rCat ta tb) σ H (xs ++ ys) := fun H1 e Q k =>
  ha H1 e _ fun H2 e2 => hb H2 (e.trans e2) _ fun H3 e3 => ⟨p, q, xs, ys, rfl, rfl, ((e.trans e2).trans e3) _ _ hp, ((e.trans e2).trans e3) _ _ hq, sz_of hz, fun p3 hp3 => k p3 _ (fresh_back (e2.trans e3) hp3) ((e2.trans e3).trans (Ex.new hp3)) upd_same⟩
theorem evx_sorted {l : List Int} (ha : Ev ta σ H (.ref p)) (hs : H p = some (.lst (intV l))) (hz : l.length < 64) :
    EvX (tCB (rTupS K) (tCons (tCB (rSorted K) (tCons ta tNil)) tNil)) σ H (fun y H2 => ∃ p l', y = .ref p ∧ SqT K H2 p (intV l') ∧ l'.Perm l) := fun H1 e Q q =>
  ha H1 e _ fun H2 e2 => ⟨p, l, rfl, sq_of ((e.trans e2) _ _ hs), hz, fun l' p2 hp1 _ hp2 => ⟨p2, intV l', rfl, .inl ⟨sq_of upd_same, fun p3 hp3 => q _ _ ((e2.trans (Ex.new hp2)).trans (Ex.new hp3)) ⟨p3, l', rfl, st_of upd_same, hp1⟩⟩⟩⟩
theorem evx_pair (ha : EvX ta σ H P1) (hb : ∀ x H1, Ex H H1 → P1 x H1 → EvX tb σ H1 P2) (h1 : ∀ x H1 H2, Ex H1 H2 → P1 x H1 → P1 x H2) (h2 : ∀ x H1 H2, Ex H1 H2 → P2 x H1 → P2 x H2) :
    EvX (tTup (tCons ta (tCons tb tNil))) σ H (fun y H2 => ∃ p x z, y = .ref p ∧ SqT K H2 p [x, z] ∧ P1 x H2 ∧ P2 z H2) := fun H1 e Q q =>
  ha H1 e _ fun x H2 e2 p1 => hb x H2 (e.trans e2) p1 H2 (Ex.refl _) _ fun z H3 e3 p2 => ⟨by show 2 ≤ sizeLine; decide, fun p hp => q _ _ ((e2.trans e3).trans (Ex.new hp)) ⟨p, x, z, rfl, st_of upd_same, h1 _ _ _ (e3.trans (Ex.new hp)) p1, h2 _ _ _ (Ex.new hp) p2⟩⟩
/-- (x,) * n -/
theorem evx_rep {x : V} {n : Nat} (ha : EvU ta σ H [x]) (hb : ∀ H1, Ex H H1 → Ev tb σ H1 (.int (n : Int))) (h1 : 0 < n) (hn : n ≤ 1000) : EvX (tOp (rRepA K) ta tb) σ H (fun y H2 => ∃ p, y = .ref p ∧ SqT K H2 p (List.replicate n x)) := fun H1 e Q q =>
  ha H1 e _ fun p H2 _ e2 h2 => hb H2 (e.trans e2) H2 (Ex.refl _) _ fun H3 e3 => ⟨p, (n : Int), [x], rfl, rfl, e3 _ _ h2, fun z => (by cases z), by omega, by omega, by show 1 ≤ 1000; decide, fun p3 H4 e4 h4 => by
    have e5 : (List.replicate (n : Int).toNat [x]).flatten = List.replicate n x := by
      rw [Int.toNat_natCast]
      clear h1 hn hb h4
      induction n with
      | zero => rfl
      | succ n ih => simp [List.replicate_succ]
    rw [e5] at h4
    exact q _ H4 ((e2.trans e3).trans e4) ⟨p3, rfl, h4⟩⟩
end
theorem filter_parts (l : List Int) (a b c : Int → Bool) (h : ∀ v, c v = true → a v = true ∧ b v = false) : (l.filter fun v => a v && b v).length + (l.filter c).length ≤ (l.filter a).length := by
  induction l with
  | nil => exact Nat.le_refl _
  | cons x l ih =>
    have hx := h x
    cases ha : a x <;> cases hb : b x <;> cases hc : c x <;> simp [List.filter_cons, ha, hb, hc] at hx ih ⊢ <;> omega
def sp_forever_rising (K : Frag) : Sp := fun vs H Q _ => ∃ a W A k c C l r X, vs = [.ref a, .int k, .ref c, .ref r] ∧ WebAt K H a W A ∧ CAt K H c W C l ∧ SqA K H r (rowV W.n X) ∧ 0 ≤ k ∧ IsEver W C k X ∧
  ∀ p H' rl, Ex H H' → SqT K H' p (intV rl) → IsEver W C (k + 1) (up1 X fun w => rl.contains w) → Q (.ref p) H'
/-! forever_rising -/
abbrev N_forever_rising : List Str := ["web", "k", "called", "row", "top", "rising", "now", "after", "more", "x", "v"]
abbrev s_forever_rising : Stmt := top 56
theorem sc_forever_rising : FnScope N_forever_rising ["web", "k", "called", "row"] (defScope s_forever_rising) := ⟨rfl, rfl, rfl, by decide +kernel, rfl, by decide +kernel, by decide +kernel⟩
def t_forever_rising (K : Frag) : TS := (tSeq (tAsg (tLc (iSeq K (tVar 3)) (gName 9) tYes (tOp rAdd (tVar 9) (tC (.int 1))) [9]) (gName 4))
    (tSeq (tAsg (tLst tNil) (gName 5))
    (tWhile (tB (tC (.bl true))) (tSeq (tAsg (tLc (iRng1 (tCons (tPW_size K (tVar 0)) tNil)) (gName 10) tYes (tIf (tTest (tOp (rIn K false) (tVar 10) (tVar 5))) (tOp rAdd (tOp (rIx K) (tVar 3) (tVar 10)) (tC (.int 1))) (tOp (rIx K) (tVar 3) (tVar 10))) [10]) (gName 6))
    (tSeq (tAsg (tFn (sp_round_under K) (tCons (tVar 0) (tCons (tVar 1) (tCons (tVar 2) (tCons (tVar 6) (tCons (tVar 4) tNil)))))) (gName 7))
    (tSeq (tAsg (tLc (iRng1 (tCons (tPW_size K (tVar 0)) tNil)) (gName 10) (tAnd (tTest (tOp (rIn K true) (tVar 10) (tVar 5))) (tTest (tOp rGt (tOp (rIx K) (tVar 7) (tVar 10)) (tOp (rIx K) (tVar 3) (tVar 10))))) (tVar 10) [10]) (gName 8))
    (tSeq (tIfS (tNot (tTru K (tVar 8))) (tRet (tCB (rTupS K) (tCons (tCB (rSorted K) (tCons (tVar 5) tNil)) tNil))) tNext)
    (tAsg (tOp rCat (tVar 5) (tVar 8)) (gName 5)))))))))
section
variable {w : World} {K : Frag} {mg : Str → Option Value} {vs : List V} {H : Hp} {Q : VK} {E : XK}
theorem len_forever_rising (h : sp_forever_rising K vs H Q E) : vs.length = 4 := by obtain ⟨a, W, A, k, c, C, l, r, X, rfl, _⟩ := h; rfl
theorem pure_forever_rising (T : Txt w K mg) (h : sp_forever_rising K vs H Q E) : t_forever_rising K (E1 Q) (start N_forever_rising vs) H := by
  obtain ⟨a, W, A, k, c, C, l, r, X, rfl, hw, hc, hr, hk, hX, q⟩ := h
  have hn := hw.n60
  have nnX : ∀ v : Int, 0 ≤ v → v < W.n → 0 ≤ X v := fun v h0 h1 => (hX.rng v h0 h1).1
  refine q_asgL (el_lcR (g := fun v => X v + 1) (ea_of (ev_var rfl) hr) (by omega) (fun _ => rfl) (fun v H1 e1 _ _ => ev_I (ev_var rfl) ev_c)) fun pt H1 nt e1 hpt => ?_
  refine q_asgL (el_lst (vs := []) ea_nil (by decide)) fun pr H2 nr e2 hpr => ?_
  refine s_while (fun m σ' H' => ∃ rl pr, m = ((ran W.n).filter fun v => !rl.contains v).length ∧ rl.length + m ≤ W.n ∧ Rising W C k X (up1 X fun w => rl.contains w) ∧ Ex H1 H' ∧ H' pr = some (.lst (intV rl)) ∧
    ∃ v6 v7 v8 v9 v10, σ' = [some (.ref a), some (.int k), some (.ref c), some (.ref r), some (.ref pt), some (.ref pr), v6, v7, v8, v9, v10]) ((ran W.n).filter fun v => !([] : List Int).contains v).length
    ⟨[], pr, rfl, by show 0 + _ ≤ _; rw [Nat.zero_add]; exact filter_len (Nat.le_of_eq (ran_len _)), (rising_start hw.ok hk hX).congr hw.ok (fun v _ _ => by unfold up1; simp), e2, hpr, _, _, _, _, _, rfl⟩ ?_
  rintro m σ' H3 ⟨rl, pr, rfl, hlen, rs, e3, g1, v6, v7, v8, v9, v10, rfl⟩
  refine ⟨true, et_B ev_c, fun _ H4 e4 => ⟨_, fun σ2 H2 h => h, ?_⟩, fun z => nomatch z⟩
  have ee := e1.trans (e3.trans e4)
  have g1 := e4 _ _ g1
  refine q_asgL (el_lrR (n := W.n) (g := up1 X fun w => rl.contains w) (ea_cons (ev_Wsize (ev_var rfl) (hw.mono ee)) ea_nil) (by omega) (fun _ => rfl) (fun v H5 e5 h0 h1 =>
    ev_pick (et_test (ev_in (ev_var rfl) (ev_var rfl) (.lst (e5 _ _ g1)))) (ev_I (ev_ixR (ev_var rfl) (ev_var rfl) (hr.mono (ee.trans e5)) h0 h1) ev_c) (ev_ixR (ev_var rfl) (ev_var rfl) (hr.mono (ee.trans e5)) h0 h1))) fun pn H5 nn5 e5 hpn => ?_
  have ee5 := ee.trans e5
  refine q_asgX (evx_fn (ea_cons (ev_var rfl) (ea_cons (ev_var rfl) (ea_cons (ev_var rfl) (ea_cons (ev_var rfl) (ea_cons (ev_var rfl) ea_nil))))) (spx_round_under (hw.mono ee5) (hc.mono ee5) (.lst hpn) (.lst ((e3.trans (e4.trans e5)) _ _ hpt)) hk
    (fun v h0 h1 => by have := nnX v h0 h1; unfold up1; split <;> omega) (fun v h0 h1 => by have := nnX v h0 h1; show 0 ≤ X v + 1; omega))) fun y H6 e6 ⟨pa, G, ey, hpa, hG⟩ => ?_
  subst ey
  have ee6 := ee5.trans e6
  have g6 := e6 _ _ (e5 _ _ g1)
  refine q_asgL (el_lrF (n := W.n) (p := fun v => !rl.contains v && decide (X v < G v)) (ea_cons (ev_Wsize (ev_var rfl) (hw.mono ee6)) ea_nil) (by omega) (fun _ => rfl) (fun v H7 e7 h0 h1 =>
    et_and (et_test (ev_notin (ev_var rfl) (ev_var rfl) (.lst (e7 _ _ g6)))) fun _ => et_test (ev_I (ev_ixR (ev_var rfl) (ev_var rfl) (.t (ex_t e7 hpa)) h0 h1) (ev_ixR (ev_var rfl) (ev_var rfl) (hr.mono (ee6.trans e7)) h0 h1))) (fun _ _ => ev_var rfl)) fun pm H7 nm e7 hpm => ?_
  have ee7 := ee6.trans e7
  have rle := rising_le hw.ok hk hX rs hG
  generalize hmo : ((ran W.n).filter fun v => !rl.contains v && decide (X v < G v)) = mo at hpm
  have hmem : ∀ v : Int, v ∈ mo ↔ (0 ≤ v ∧ v < W.n) ∧ v ∉ rl ∧ X v < G v := fun v => by
    rw [← hmo, List.mem_filter, mem_ran]
    simp
  have hin : ∀ v : Int, v ∈ rl → up1 X (fun w => rl.contains w) v = X v + 1 := fun v hv => by unfold up1; rw [if_pos (List.contains_iff_mem.mpr hv)]
  have hout : ∀ v : Int, v ∉ rl → up1 X (fun w => rl.contains w) v = X v := fun v hv => by unfold up1; rw [if_neg fun z => hv (List.contains_iff_mem.mp z)]
  refine q_when (et_not (et_tru (ev_var rfl) (.lst hpm))) (fun hb H8 e8 => ?_) fun hb H8 e8 => ?_
  · have hemp : mo = [] := by
      cases mo with
      | nil => rfl
      | cons x l => cases hb
    refine s_retX (evx_sorted (ev_var rfl) ((e7.trans e8) _ _ g6) (by omega)) fun y H9 e9 ⟨ps, l', ey, hps, hperm⟩ => ?_
    subst ey
    refine q ps H9 l' (ee7.trans (e8.trans e9)) hps ((rising_end hw.ok hk hX rs hG fun v h0 h1 => ?_).congr hw.ok fun v _ _ => ?_)
    · by_cases hv : v ∈ rl
      · rw [hin v hv]
        exact rle.2 v h0 h1
      · rw [hout v hv]
        refine Int.not_lt.mp fun z => ?_
        have := (hmem v).mpr ⟨⟨h0, h1⟩, hv, z⟩
        rw [hemp] at this
        cases this
    · have : l'.contains v = rl.contains v := by
        rw [Bool.eq_iff_iff, List.contains_iff_mem, List.contains_iff_mem]
        exact hperm.mem_iff
      show (if rl.contains v = true then X v + 1 else X v) = if l'.contains v = true then X v + 1 else X v
      rw [this]
  · have hml : mo.length + ((ran W.n).filter fun v => !(rl ++ mo).contains v).length ≤ ((ran W.n).filter fun v => !rl.contains v).length := by
      have hp := filter_parts (ran W.n) (fun v => !rl.contains v) (fun v => decide (X v < G v)) (fun v => !(rl ++ mo).contains v && decide (0 ≤ v ∧ v < W.n)) fun v hv => by
        simp only [Bool.and_eq_true, Bool.not_eq_true', decide_eq_true_eq] at hv
        have hv1 : v ∉ rl ++ mo := fun z => by rw [List.contains_iff_mem.mpr z] at hv; exact absurd hv.1 (by decide)
        have h1 : v ∉ rl := fun z => hv1 (List.mem_append_left _ z)
        refine ⟨by simpa using h1, decide_eq_false fun z => hv1 (List.mem_append_right _ ((hmem v).mpr ⟨hv.2, h1, z⟩))⟩
      rw [hmo] at hp
      have e9 : ((ran W.n).filter fun v => !(rl ++ mo).contains v && decide (0 ≤ v ∧ v < W.n)) = (ran W.n).filter fun v => !(rl ++ mo).contains v := List.filter_congr fun v hv => by
        rw [decide_eq_true (mem_ran.mp hv), Bool.and_true]
      rw [e9] at hp
      exact hp
    have hmp : 0 < mo.length := by
      cases mo with
      | nil => cases hb
      | cons x l => exact Nat.succ_pos _
    refine s_asgL (el_cat (ev_var rfl) ((e7.trans e8) _ _ g6) (ev_var rfl) (e8 _ _ hpm) (by rw [intV_len, intV_len]; omega)) fun pc H9 nc e9 hpc => ?_
    refine ⟨_, by omega, rl ++ mo, pc, rfl, by rw [List.length_append]; omega, (rising_step hw.ok hk hX rs hG).congr hw.ok fun v h0 h1 => ?_, e3.trans (e4.trans (e5.trans (e6.trans (e7.trans (e8.trans e9))))), by rw [hpc]; unfold intV; rw [List.map_append], _, _, _, _, _, rfl⟩
    have a1 := rle.1 v h0 h1
    have a2 : G v ≤ X v + 1 := rle.2 v h0 h1
    unfold up1
    by_cases hv : v ∈ rl
    · rw [hin v hv] at a1
      rw [if_pos (List.contains_iff_mem.mpr (List.mem_append_left _ hv))]
      omega
    · rw [hout v hv] at a1
      by_cases hg : X v < G v
      · rw [if_pos (List.contains_iff_mem.mpr (List.mem_append_right _ ((hmem v).mpr ⟨⟨h0, h1⟩, hv, hg⟩)))]
        omega
      · rw [if_neg fun z => by
          rcases List.mem_append.mp (List.contains_iff_mem.mp z) with z | z
          · exact hv z
          · exact hg ((hmem v).mp z).2.2]
        omega
end
theorem d_forever_rising {P : Program} {w : World} {K : Frag} {mg : Str → Option Value} {base : Heap} (T : Txt w K mg) {f : Addr} {cdv : Value} {A : Around} {outer : List Env} {s : Shared} {H : Hp} {E : XK} (hr : Room 5 (A.deeper (envOfC "forever_rising" (defScope s_forever_rising) s.heap.objs.size f cdv))) :
    PSs (cxOf CX0 P w K mg base N_forever_rising "forever_rising" (defScope s_forever_rising) f cdv A outer s H E).nox (defBody s_forever_rising) (t_forever_rising K) := by
  exact (pss_cons (ps_setLc (i := 4) (own := [("x", 9)]) (g := gName 9) (tt := tYes) (te := (tOp rAdd (tVar 9) (tC (.int 1)))) rfl sc_forever_rising.nd rfl rfl (sw_true rfl rfl rfl (by decide +kernel)) (pi_seq (pv 3)) (blkOk_by (N := N_forever_rising) (sc := defScope s_forever_rising) (by decide +kernel)) (fun _ _ _ _ _ => pg_name (i := 9) sc_forever_rising.nd rfl (Or.inl rfl)) (fun _ _ _ _ _ => pts_nil) (fun _ _ _ _ _ => (pe_op op_add (pv 9) pe_int)))
    (pss_cons (ps_set (i := 5) sc_forever_rising.nd rfl (Or.inr rfl) (pe_lst pa_nil))
    (pss_one (ps_while PassesOwn.never (pt_val pe_bl) (pss_cons (ps_setLc (i := 6) (own := [("v", 10)]) (g := gName 10) (tt := tYes) (te := (tIf (tTest (tOp (rIn K false) (tVar 10) (tVar 5))) (tOp rAdd (tOp (rIx K) (tVar 3) (tVar 10)) (tC (.int 1))) (tOp (rIx K) (tVar 3) (tVar 10)))) rfl sc_forever_rising.nd rfl rfl (sw_true rfl rfl rfl (by decide +kernel)) (pi_range1 (by rfl) (T.free (memOf 1 rfl)) (pa_cons (pe_W_size T (pv 0) hr (by decide)) pa_nil)) (blkOk_by (N := N_forever_rising) (sc := defScope s_forever_rising) (by decide +kernel)) (fun _ _ _ _ _ => pg_name (i := 10) sc_forever_rising.nd rfl (Or.inl rfl)) (fun _ _ _ _ _ => pts_nil) (fun _ _ _ _ _ => (pe_ifExp (pt_cmpR op_in_seq (pv 10) (pv 5) (by rfl)) (pe_op op_add (pe_ix ix_seq (pv 3) (pv 10) (fun _ _ => rfl)) pe_int) (pe_ix ix_seq (pv 3) (pv 10) (fun _ _ => rfl)))))
    (pss_cons (ps_set (i := 7) sc_forever_rising.nd rfl (Or.inr rfl) (pe_f (ok_round_under T) hr (by decide) (by rfl) (pa_cons (pv 0) (pa_cons (pv 1) (pa_cons (pv 2) (pa_cons (pv 6) (pa_cons (pv 4) pa_nil)))))))
    (pss_cons (ps_setLc (i := 8) (own := [("v", 10)]) (g := gName 10) (tt := (tAnd (tTest (tOp (rIn K true) (tVar 10) (tVar 5))) (tTest (tOp rGt (tOp (rIx K) (tVar 7) (tVar 10)) (tOp (rIx K) (tVar 3) (tVar 10)))))) (te := (tVar 10)) rfl sc_forever_rising.nd rfl rfl (sw_true rfl rfl rfl (by decide +kernel)) (pi_range1 (by rfl) (T.free (memOf 1 rfl)) (pa_cons (pe_W_size T (pv 0) hr (by decide)) pa_nil)) (blkOk_by (N := N_forever_rising) (sc := defScope s_forever_rising) (by decide +kernel)) (fun _ _ _ _ _ => pg_name (i := 10) sc_forever_rising.nd rfl (Or.inl rfl)) (fun _ _ _ _ _ => pts_one (PW.pt (pw_and (pt_cmpR op_notIn_seq (pv 10) (pv 5) (by rfl)) (pw_and1 (pt_cmpR op_gt (pe_ix ix_seq (pv 7) (pv 10) (fun _ _ => rfl)) (pe_ix ix_seq (pv 3) (pv 10) (fun _ _ => rfl)) (nomark _)))))) (fun _ _ _ _ _ => (pv 10)))
    (pss_cons (ps_if (pt_not (pt_truth (pv 8) (by intro _; rfl))) (pss_one (ps_ret (pe_callTy call_tuple_of (by rfl) (T.free (memOf 6 rfl)) b_tuple (pa_cons (pe_callB cr_sorted (by rfl) (T.free (memOf 9 rfl)) b_sorted (pa_cons (pv 5) pa_nil)) pa_nil)))) pss_nil)
    (pss_one (ps_set (i := 5) sc_forever_rising.nd rfl (Or.inr rfl) (pe_op op_cat (pv 5) (pv 8))))))))))))
theorem ok_forever_rising {P : Program} {w : World} {K : Frag} {mg : Str → Option Value} {base : Heap} (T : Txt w K mg) : GF P w K mg base "forever_rising" 6 (sp_forever_rising K) := by
  have F := T.def_ (d := xf_forever_rising) (memOf 41 rfl) rfl
  refine ⟨fnr_mk (k := 5) F sc_forever_rising (fun _ _ _ _ _ _ us hl => match us, hl with | [_, _, _, _], _ => rfl) (fun vs H Q E h => len_forever_rising h) (fun cdv A outer s H vs Q E hr h => ⟨t_forever_rising K, d_forever_rising T hr, pure_forever_rising T h⟩), ?_, T.glo (memOf 34 rfl)⟩
  obtain ⟨fd, F⟩ := F
  exact F.kp
theorem spx_forever_rising {K : Frag} {H : Hp} {a c r : Addr} {W : Wb} {A : WA} {k : Int} {C : Int → Bool} {l : List Int} {X : Int → Int} (hw : WebAt K H a W A) (hc : CAt K H c W C l) (hr : SqA K H r (rowV W.n X)) (hk : 0 ≤ k) (hX : IsEver W C k X) :
    SpX (sp_forever_rising K) [.ref a, .int k, .ref c, .ref r] H (fun y H' => ∃ p rl, y = .ref p ∧ SqT K H' p (intV rl) ∧ IsEver W C (k + 1) (up1 X fun w => rl.contains w)) :=
  fun H1 e Q q E => ⟨a, W, A, k, c, C, l, r, X, rfl, hw.mono e, hc.mono e, hr.mono e, hk, hX, fun p H2 rl e2 hp hy => q _ H2 e2 ⟨p, rl, rfl, hp, hy⟩⟩
def sp_forever_risen (K : Frag) : Sp := fun vs H Q _ => ∃ a W A k c C l r X, vs = [.ref a, .int k, .ref c, .ref r] ∧ WebAt K H a W A ∧ CAt K H c W C l ∧ SqA K H r (rowV W.n X) ∧ 0 ≤ k ∧ IsEver W C k X ∧
  ∀ p H' U, Ex H H' → SqT K H' p (rowV W.n U) → IsEver W C (k + 1) U → Q (.ref p) H'
/-! forever_risen -/
abbrev N_forever_risen : List Str := ["web", "k", "called", "row", "rising", "v"]
abbrev s_forever_risen : Stmt := top 57
theorem sc_forever_risen : FnScope N_forever_risen ["web", "k", "called", "row"] (defScope s_forever_risen) := ⟨rfl, rfl, rfl, by decide +kernel, rfl, by decide +kernel, by decide +kernel⟩
def t_forever_risen (K : Frag) : TS := (tSeq (tAsg (tFn (sp_forever_rising K) (tCons (tVar 0) (tCons (tVar 1) (tCons (tVar 2) (tCons (tVar 3) tNil))))) (gName 4))
    (tRet (tCB (rTupS K) (tCons (tLc (iRng1 (tCons (tPW_size K (tVar 0)) tNil)) (gName 5) tYes (tIf (tTest (tOp (rIn K false) (tVar 5) (tVar 4))) (tOp rAdd (tOp (rIx K) (tVar 3) (tVar 5)) (tC (.int 1))) (tOp (rIx K) (tVar 3) (tVar 5))) [5]) tNil))))
section
variable {w : World} {K : Frag} {mg : Str → Option Value} {vs : List V} {H : Hp} {Q : VK} {E : XK}
theorem len_forever_risen (h : sp_forever_risen K vs H Q E) : vs.length = 4 := by obtain ⟨a, W, A, k, c, C, l, r, X, rfl, _⟩ := h; rfl
theorem pure_forever_risen (T : Txt w K mg) (h : sp_forever_risen K vs H Q E) : t_forever_risen K (E1 Q) (start N_forever_risen vs) H := by
  obtain ⟨a, W, A, k, c, C, l, r, X, rfl, hw, hc, hr, hk, hX, q⟩ := h
  have hn := hw.n60
  refine q_asgX (evx_fn (ea_cons (ev_var rfl) (ea_cons (ev_var rfl) (ea_cons (ev_var rfl) (ea_cons (ev_var rfl) ea_nil)))) (spx_forever_rising hw hc hr hk hX)) fun y H1 e1 ⟨p, rl, ey, hp, hU⟩ => ?_
  subst ey
  refine s_retX (evx_tupL (el_lrR (n := W.n) (g := up1 X fun w => rl.contains w) (ea_cons (ev_Wsize (ev_var rfl) (hw.mono e1)) ea_nil) (by omega) (fun _ => rfl) (fun v H5 e5 h0 h1 =>
    ev_pick (et_test (ev_in (ev_var rfl) (ev_var rfl) (.t (ex_t e5 hp)))) (ev_I (ev_ixR (ev_var rfl) (ev_var rfl) (hr.mono (e1.trans e5)) h0 h1) ev_c) (ev_ixR (ev_var rfl) (ev_var rfl) (hr.mono (e1.trans e5)) h0 h1)))) fun y H2 e2 ⟨p2, ey, hp2⟩ => ?_
  subst ey
  exact q p2 H2 _ (e1.trans e2) hp2 hU
end
theorem d_forever_risen {P : Program} {w : World} {K : Frag} {mg : Str → Option Value} {base : Heap} (T : Txt w K mg) {f : Addr} {cdv : Value} {A : Around} {outer : List Env} {s : Shared} {H : Hp} {E : XK} (hr : Room 6 (A.deeper (envOfC "forever_risen" (defScope s_forever_risen) s.heap.objs.size f cdv))) :
    PSs (cxOf CX0 P w K mg base N_forever_risen "forever_risen" (defScope s_forever_risen) f cdv A outer s H E).nox (defBody s_forever_risen) (t_forever_risen K) := by
  exact (pss_cons (ps_set (i := 4) sc_forever_risen.nd rfl (Or.inr rfl) (pe_f (ok_forever_rising T) hr (by decide) (by rfl) (pa_cons (pv 0) (pa_cons (pv 1) (pa_cons (pv 2) (pa_cons (pv 3) pa_nil))))))
    (pss_one (ps_ret (pe_callTy call_tuple_of (by rfl) (T.free (memOf 6 rfl)) b_tuple (pa_cons (pe_lc (own := [("v", 5)]) (g := gName 5) (tt := tYes) (te := (tIf (tTest (tOp (rIn K false) (tVar 5) (tVar 4))) (tOp rAdd (tOp (rIx K) (tVar 3) (tVar 5)) (tC (.int 1))) (tOp (rIx K) (tVar 3) (tVar 5)))) rfl sc_forever_risen.nd (pi_range1 (by rfl) (T.free (memOf 1 rfl)) (pa_cons (pe_W_size T (pv 0) hr (by decide)) pa_nil)) (blkOk_by (N := N_forever_risen) (sc := defScope s_forever_risen) (by decide +kernel)) (fun _ _ _ _ _ => pg_name (i := 5) sc_forever_risen.nd rfl (Or.inl rfl)) (fun _ _ _ _ _ => pts_nil) (fun _ _ _ _ _ => (pe_ifExp (pt_cmpR op_in_seq (pv 5) (pv 4) (by rfl)) (pe_op op_add (pe_ix ix_seq (pv 3) (pv 5) (fun _ _ => rfl)) pe_int) (pe_ix ix_seq (pv 3) (pv 5) (fun _ _ => rfl))))) pa_nil)))))
theorem ok_forever_risen {P : Program} {w : World} {K : Frag} {mg : Str → Option Value} {base : Heap} (T : Txt w K mg) : GF P w K mg base "forever_risen" 7 (sp_forever_risen K) := by
  have F := T.def_ (d := xf_forever_risen) (memOf 42 rfl) rfl
  refine ⟨fnr_mk (k := 6) F sc_forever_risen (fun _ _ _ _ _ _ us hl => match us, hl with | [_, _, _, _], _ => rfl) (fun vs H Q E h => len_forever_risen h) (fun cdv A outer s H vs Q E hr h => ⟨t_forever_risen K, d_forever_risen T hr, pure_forever_risen T h⟩), ?_, T.glo (memOf 35 rfl)⟩
  obtain ⟨fd, F⟩ := F
  exact F.kp
theorem spx_forever_risen {K : Frag} {H : Hp} {a c r : Addr} {W : Wb} {A : WA} {k : Int} {C : Int → Bool} {l : List Int} {X : Int → Int} (hw : WebAt K H a W A) (hc : CAt K H c W C l) (hr : SqA K H r (rowV W.n X)) (hk : 0 ≤ k) (hX : IsEver W C k X) :
    SpX (sp_forever_risen K) [.ref a, .int k, .ref c, .ref r] H (fun y H' => ∃ p U, y = .ref p ∧ SqT K H' p (rowV W.n U) ∧ IsEver W C (k + 1) U) :=
  fun H1 e Q q E => ⟨a, W, A, k, c, C, l, r, X, rfl, hw.mono e, hc.mono e, hr.mono e, hk, hX, fun p H2 U e2 hp hy => q _ H2 e2 ⟨p, U, rfl, hp, hy⟩⟩
def sp_forever_by_rises (K : Frag) : Sp := fun vs H Q _ => ∃ a W A k c C l, vs = [.ref a, .int k, .ref c] ∧ WebAt K H a W A ∧ CAt K H c W C l ∧ 0 ≤ k ∧ k ≤ 1000 ∧
  ∀ p H' U, Ex H H' → SqT K H' p (rowV W.n U) → IsEver W C (k + 1) U → Q (.ref p) H'
/-! forever_by_rises -/
abbrev N_forever_by_rises : List Str := ["web", "k", "called", "row", "chips"]
abbrev s_forever_by_rises : Stmt := top 58
theorem sc_forever_by_rises : FnScope N_forever_by_rises ["web", "k", "called"] (defScope s_forever_by_rises) := ⟨rfl, rfl, rfl, by decide +kernel, rfl, by decide +kernel, by decide +kernel⟩
def t_forever_by_rises (K : Frag) : TS := (tSeq (tAsg (tOp (rRepA K) (tTup (tCons (tC (.int 0)) tNil)) (tPW_size K (tVar 0))) (gName 3))
    (tSeq (tFor (iRng1 (tCons (tOp rAdd (tVar 1) (tC (.int 1))) tNil)) (gName 4) (tAsg (tFn (sp_forever_risen K) (tCons (tVar 0) (tCons (tVar 4) (tCons (tVar 2) (tCons (tVar 3) tNil))))) (gName 3)))
    (tRet (tVar 3))))
section
variable {w : World} {K : Frag} {mg : Str → Option Value} {vs : List V} {H : Hp} {Q : VK} {E : XK}
theorem len_forever_by_rises (h : sp_forever_by_rises K vs H Q E) : vs.length = 3 := by obtain ⟨a, W, A, k, c, C, l, rfl, _⟩ := h; rfl
theorem pure_forever_by_rises (T : Txt w K mg) (h : sp_forever_by_rises K vs H Q E) : t_forever_by_rises K (E1 Q) (start N_forever_by_rises vs) H := by
  obtain ⟨a, W, A, k, c, C, l, rfl, hw, hc, hk, hk2, q⟩ := h
  have hn := hw.n60
  refine q_asgX (evx_rep (n := W.n) (x := .int 0) (eu_tup (ea_cons ev_c ea_nil) (by show 1 ≤ 100000; decide)) (fun H1 e1 => ev_Wsize (ev_var rfl) (hw.mono e1)) hw.ok.pos (by omega)) fun y H1 e1 ⟨p, ey, hp⟩ => ?_
  subst ey
  rw [rep_row] at hp
  refine q_forR1 (n := k + 1) (ea_cons (ev_I (ev_var rfl) ev_c) ea_nil) ⟨by omega, by omega⟩ (fun i σ' H' => ∃ p X v, σ' = [some (.ref a), some (.int k), some (.ref c), some (.ref p), v] ∧ Ex H H' ∧ SqT K H' p (rowV W.n X) ∧ IsEver W C (i : Int) X)
    (fun H2 e2 => ⟨p, _, _, rfl, e1.trans e2, ex_t e2 hp, ever_zero hw.ok⟩) ?_ ?_
  · rintro i σ' H2 hi ⟨p, X, v, rfl, e2, hp, hX⟩
    refine s_asgX (evx_fn (ea_cons (ev_var rfl) (ea_cons (ev_var rfl) (ea_cons (ev_var rfl) (ea_cons (ev_var rfl) ea_nil)))) (spx_forever_risen (hw.mono e2) (hc.mono e2) (.t hp) (by omega) hX)) fun y H3 e3 ⟨p3, U, ey, hp3, hU⟩ => ?_
    subst ey
    exact ⟨p3, U, _, rfl, e2.trans e3, hp3, hU⟩
  · rintro σ' H2 ⟨p, X, v, rfl, e2, hp, hX⟩
    have e5 : (((k + 1).toNat : Nat) : Int) = k + 1 := Int.toNat_of_nonneg (by omega)
    rw [e5] at hX
    exact s_ret (ev_var rfl) fun H3 e3 => q p H3 X (e2.trans e3) (ex_t e3 hp) hX
end
theorem d_forever_by_rises {P : Program} {w : World} {K : Frag} {mg : Str → Option Value} {base : Heap} (T : Txt w K mg) {f : Addr} {cdv : Value} {A : Around} {outer : List Env} {s : Shared} {H : Hp} {E : XK} (hr : Room 7 (A.deeper (envOfC "forever_by_rises" (defScope s_forever_by_rises) s.heap.objs.size f cdv))) :
    PSs (cxOf CX0 P w K mg base N_forever_by_rises "forever_by_rises" (defScope s_forever_by_rises) f cdv A outer s H E).nox (defBody s_forever_by_rises) (t_forever_by_rises K) := by
  exact (pss_cons (ps_set (i := 3) sc_forever_by_rises.nd rfl (Or.inl rfl) (pe_op op_repA (pe_tup (pa_cons pe_int pa_nil)) (pe_W_size T (pv 0) hr (by decide))))
    (pss_cons (ps_for PassesOwn.never rfl (pi_range1 (by rfl) (T.free (memOf 1 rfl)) (pa_cons (pe_op op_add (pv 1) pe_int) pa_nil)) (pg_name (i := 4) sc_forever_by_rises.nd rfl (Or.inl rfl)) (pss_one (ps_set (i := 3) sc_forever_by_rises.nd rfl (Or.inl rfl) (pe_f (ok_forever_risen T) hr (by decide) (by rfl) (pa_cons (pv 0) (pa_cons (pv 4) (pa_cons (pv 2) (pa_cons (pv 3) pa_nil))))))))
    (pss_one (ps_ret (pv 3)))))
theorem ok_forever_by_rises {P : Program} {w : World} {K : Frag} {mg : Str → Option Value} {base : Heap} (T : Txt w K mg) : GF P w K mg base "forever_by_rises" 8 (sp_forever_by_rises K) := by
  have F := T.def_ (d := xf_forever_by_rises) (memOf 43 rfl) rfl
  refine ⟨fnr_mk (k := 7) F sc_forever_by_rises (fun _ _ _ _ _ _ us hl => match us, hl with | [_, _, _], _ => rfl) (fun vs H Q E h => len_forever_by_rises h) (fun cdv A outer s H vs Q E hr h => ⟨t_forever_by_rises K, d_forever_by_rises T hr, pure_forever_by_rises T h⟩), ?_, T.glo (memOf 36 rfl)⟩
  obtain ⟨fd, F⟩ := F
  exact F.kp
theorem spx_forever_by_rises {K : Frag} {H : Hp} {a c : Addr} {W : Wb} {A : WA} {k : Int} {C : Int → Bool} {l : List Int} (hw : WebAt K H a W A) (hc : CAt K H c W C l) (hk : 0 ≤ k) (hk2 : k ≤ 1000) :
    SpX (sp_forever_by_rises K) [.ref a, .int k, .ref c] H (fun y H' => ∃ p U, y = .ref p ∧ SqT K H' p (rowV W.n U) ∧ IsEver W C (k + 1) U) :=
  fun H1 e Q q E => ⟨a, W, A, k, c, C, l, rfl, hw.mono e, hc.mono e, hk, hk2, fun p H2 U e2 hp hy => q _ H2 e2 ⟨p, U, rfl, hp, hy⟩⟩
end Pw
end

section
set_option maxRecDepth 100000
set_option maxHeartbeats 4000000
/-! Falling out. -/
namespace Pw
open PySem PySem.Spec L2 Evl StX PwS SlX
open PyProof.Rows hiding St
def markF (f : Int → Int) (l : List Int) (t : Int) : Int → Int := fun v => if v ∈ l then t else f v
theorem markF_more {f : Int → Int} {l : List Int} {x t : Int} (v : Int) : setF (markF f l t) x t v = markF f (l ++ [x]) t v := by
  unfold setF markF
  by_cases e : v = x
  · subst e
    rw [if_pos rfl, if_pos (List.mem_append_right _ (List.mem_singleton.mpr rfl))]
  · rw [if_neg e]
    by_cases m : v ∈ l
    · rw [if_pos m, if_pos (List.mem_append_left _ m)]
    · rw [if_neg m, if_neg fun z => by
        rcases List.mem_append.mp z with z | z
        · exact m z
        · exact e (List.mem_singleton.mp z)]
theorem markF_rnk {lv : List Int → Int → Bool} {l0 : List Int} {i : Nat} (v : Int) : markF (rnk lv l0 i) ((lft lv l0 i).filter fun v => lv (lft lv l0 i) v) ((i : Int) + 1) v = rnk lv l0 (i + 1) v := by
  show (if _ then _ else _) = if _ then _ else _
  simp only [List.mem_filter]
theorem lft_next {lv : List Int → Int → Bool} {l0 : List Int} {i : Nat} : ((lft lv l0 i).filter fun v => !((lft lv l0 i).filter fun v => lv (lft lv l0 i) v).contains v) = lft lv l0 (i + 1) := by
  show _ = (lft lv l0 i).filter fun v => !lv (lft lv l0 i) v
  refine List.filter_congr fun v hv => ?_
  congr 1
  rw [Bool.eq_iff_iff, List.contains_iff_mem, List.mem_filter]
  exact ⟨fun h => h.2, fun h => ⟨hv, h⟩⟩
theorem lft_slen {lv : List Int → Int → Bool} {l0 : List Int} : ∀ i, (lft lv l0 i).length ≤ l0.length
  | 0 => Nat.le_refl _
  | i + 1 => Nat.le_trans (List.length_filter_le _ _) (lft_slen i)
theorem l0R_mvl (W : Wb) (C : Int → Bool) (k : Int) (X : Int → Int) : ((mvl W).filter fun v => !C v && decide (X v ≤ k)) = l0R W C (k + 1) X := by
  show ((ran W.n).filter W.mov).filter _ = (ran W.n).filter _
  rw [List.filter_filter]
  refine List.filter_congr fun v _ => ?_
  rw [Bool.and_comm]
  congr 2
  rw [Bool.eq_iff_iff, decide_eq_true_iff, decide_eq_true_iff]
  omega
theorem l0C_mvl (W : Wb) (X : Int → Int) : ((mvl W).filter fun v => decide (1 ≤ X v)) = l0C W X := by
  show ((ran W.n).filter W.mov).filter _ = (ran W.n).filter _
  rw [List.filter_filter]
  exact List.filter_congr fun v _ => Bool.and_comm ..
def sp_call_fall_out (K : Frag) : Sp := fun vs H Q _ => ∃ a W A k c C l r X, vs = [.ref a, .int k, .ref c, .ref r] ∧ WebAt K H a W A ∧ CAt K H c W C l ∧ SqA K H r (rowV W.n X) ∧ 0 ≤ k ∧ IsEver W C (k + 1) X ∧
  ∀ p p1 z H', Ex H H' → SqT K H' p [.ref p1, z] → SqT K H' p1 (rowV W.n (rnk (lvR W X) (l0R W C (k + 1) X) W.n)) → Q (.ref p) H'
/-! call_fall_out -/
abbrev N_call_fall_out : List Str := ["web", "k", "called", "row", "ranks", "left", "turn", "raised", "leaving", "v"]
abbrev s_call_fall_out : Stmt := top 53
theorem sc_call_fall_out : FnScope N_call_fall_out ["web", "k", "called", "row"] (defScope s_call_fall_out) := ⟨rfl, rfl, rfl, by decide +kernel, rfl, by decide +kernel, by decide +kernel⟩
def t_call_fall_out (K : Frag) : TS := (tSeq (tAsg (tOp rRep (tLst (tCons (tC (.int 0)) tNil)) (tPW_size K (tVar 0))) (gName 4))
    (tSeq (tAsg (tLc (iSeq K (tPW_moving K (tVar 0))) (gName 9) (tAnd (tTest (tOp (rIn K true) (tVar 9) (tVar 2))) (tTest (tOp rLe (tOp (rIx K) (tVar 3) (tVar 9)) (tVar 1)))) (tVar 9) [9]) (gName 5))
    (tSeq (tAsg (tC (.int 0)) (gName 6))
    (tSeq (tWhile (tTru K (tVar 5)) (tSeq (tAug 6 (tC (.int 1)) (ipI fun i j => i + j))
    (tSeq (tAsg (tLc (iRng1 (tCons (tPW_size K (tVar 0)) tNil)) (gName 9) tYes (tIf (tTest (tOp (rIn K false) (tVar 9) (tVar 5))) (tOp rAdd (tOp (rIx K) (tVar 3) (tVar 9)) (tC (.int 1))) (tOp (rIx K) (tVar 3) (tVar 9))) [9]) (gName 7))
    (tSeq (tAsg (tLc (iSeq K (tVar 5)) (gName 9) (tTest (tOp rLe (tFn (sp_price_at K) (tCons (tVar 0) (tCons (tVar 1) (tCons (tVar 7) (tCons (tVar 9) tNil))))) (tOp (rIx K) (tVar 3) (tVar 9)))) (tVar 9) [9]) (gName 8))
    (tSeq (tIfS (tNot (tTru K (tVar 8))) tBreak tNext)
    (tSeq (tFor (iSeq K (tVar 8)) (gName 9) (tAsg (tVar 6) (gSub (tVar 4) (tVar 9) rSetL)))
    (tAsg (tLc (iSeq K (tVar 5)) (gName 9) (tTest (tOp (rIn K true) (tVar 9) (tVar 8))) (tVar 9) [9]) (gName 5))))))))
    (tSeq (tFor (iSeq K (tVar 5)) (gName 9) (tAsg (tC .non) (gSub (tVar 4) (tVar 9) rSetL)))
    (tRet (tTup (tCons (tCB (rTupS K) (tCons (tVar 4) tNil)) (tCons (tCB (rTupS K) (tCons (tVar 5) tNil)) tNil)))))))))
section
variable {w : World} {K : Frag} {mg : Str → Option Value} {vs : List V} {H : Hp} {Q : VK} {E : XK}
theorem len_call_fall_out (h : sp_call_fall_out K vs H Q E) : vs.length = 4 := by obtain ⟨a, W, A, k, c, C, l, r, X, rfl, _⟩ := h; rfl
theorem pure_call_fall_out (T : Txt w K mg) (h : sp_call_fall_out K vs H Q E) : t_call_fall_out K (E1 Q) (start N_call_fall_out vs) H := by
  obtain ⟨a, W, A, k, c, C, l, r, X, rfl, hw, hc, hr, hk, hX, q⟩ := h
  have hn := hw.n60
  have sm := someR hw.ok hX
  refine q_asgL (el_rep1 (n := W.n) (el_lst (ea_cons ev_c ea_nil) (by show 1 ≤ 100000; decide)) (fun H1 e1 => ev_Wsize (ev_var rfl) (hw.mono e1)) (by omega)) fun pk H1 nk e1 hpk => ?_
  rw [rep_row] at hpk
  refine q_asgL (el_lcF (l := mvl W) (p := fun v => !C v && decide (X v ≤ k)) (ea_of (ev_Wmoving (ev_var rfl) (hw.mono e1)) (hw.hv.mono e1)) (by have := mvl_len W; omega) (fun _ => rfl) (fun v H2 e2 hv => ?_) (fun _ _ => ev_var rfl)) fun pl H2 nl e2 hpl => ?_
  · obtain ⟨b0, b1, b2⟩ := mem_mvl.mp hv
    exact et_and (et_test (ev_ninC (ev_var rfl) (ev_var rfl) (hc.mono (e1.trans e2)))) fun _ => et_test (ev_I (ev_ixR (ev_var rfl) (ev_var rfl) (hr.mono (e1.trans e2)) b0 b1) (ev_var rfl))
  rw [l0R_mvl] at hpl
  have hne : pk ≠ pl := fun z => by rw [← z, hpk] at nl; cases nl
  refine q_asg ev_c fun H3 e3 => ?_
  refine q_while (fun m σ' H' => ∃ i pl, m = (lft (lvR W X) (l0R W C (k + 1) X) i).length ∧ Ex H H' ∧ pk ≠ pl ∧ H' pk = some (.lst (rowV W.n (rnk (lvR W X) (l0R W C (k + 1) X) i))) ∧ H' pl = some (.lst (intV (lft (lvR W X) (l0R W C (k + 1) X) i))) ∧
    ∃ v7 v8 v9, σ' = [some (.ref a), some (.int k), some (.ref c), some (.ref r), some (.ref pk), some (.ref pl), some (.int (i : Int)), v7, v8, v9]) _ ⟨0, pl, rfl, e1.trans (e2.trans e3), hne, (e2.trans e3) _ _ hpk, e3 _ _ hpl, _, _, _, rfl⟩ ?_
  rintro m σ' H4 ⟨i, pl, rfl, e4, hne, g1, g2, v7, v8, v9, rfl⟩
  have hll := Nat.le_trans (lft_slen (lv := lvR W X) (l0 := l0R W C (k + 1) X) i) (l0R_len W C (k + 1) X)
  have hlin : ∀ v, v ∈ lft (lvR W X) (l0R W C (k + 1) X) i → 0 ≤ v ∧ v < W.n ∧ W.mov v = true := fun v hv => by
    have := mem_l0R.mp (lft_anti (Nat.zero_le i) hv)
    exact ⟨this.1, this.2.1, this.2.2.1⟩
  refine ⟨_, et_tru (ev_var rfl) (.lst g2), fun hb H5 e5 => ⟨_, fun σ2 H2 h => h, ?_⟩, fun hb H5 e5 => ?_⟩
  · have hne0 : lft (lvR W X) (l0R W C (k + 1) X) i ≠ [] := fun z => by rw [z] at hb; cases hb
    refine q_aug rfl ev_c fun H6 e6 => ?_
    have ee := e4.trans (e5.trans e6)
    have g1 := (e5.trans e6) _ _ g1
    have g2 := (e5.trans e6) _ _ g2
    refine q_asgL (el_lrR (n := W.n) (g := up1 X fun w => (lft (lvR W X) (l0R W C (k + 1) X) i).contains w) (ea_cons (ev_Wsize (ev_var rfl) (hw.mono ee)) ea_nil) (by omega) (fun _ => rfl) (fun v H7 e7 h0 h1 =>
      ev_pick (et_test (ev_in (ev_var rfl) (ev_var rfl) (.lst (e7 _ _ g2)))) (ev_I (ev_ixR (ev_var rfl) (ev_var rfl) (hr.mono (ee.trans e7)) h0 h1) ev_c) (ev_ixR (ev_var rfl) (ev_var rfl) (hr.mono (ee.trans e7)) h0 h1))) fun pz H7 nz e7 hpz => ?_
    have ee7 := ee.trans e7
    have g1 := e7 _ _ g1
    have g2 := e7 _ _ g2
    refine q_asgL (el_lcF (l := lft (lvR W X) (l0R W C (k + 1) X) i) (p := fun v => lvR W X (lft (lvR W X) (l0R W C (k + 1) X) i) v) (ea_of (ev_var rfl) (.lst g2)) (by omega) (fun _ => rfl) (fun v H8 e8 hv => ?_) (fun _ _ => ev_var rfl)) fun pw H8 nw e8 hpw => ?_
    · have b := hlin v hv
      exact et_test (ev_I (ev_fn (ea_cons (ev_var rfl) (ea_cons (ev_var rfl) (ea_cons (ev_var rfl) (ea_cons (ev_var rfl) ea_nil)))) (spv_price_at (hw.mono (ee7.trans e8)) (.lst (e8 _ _ hpz)) b.1 b.2.1 b.2.2)) (ev_ixR (ev_var rfl) (ev_var rfl) (hr.mono (ee7.trans e8)) b.1 b.2.1))
    have ee8 := ee7.trans e8
    have hnw : pk ≠ pw := fun z => by rw [← z, g1] at nw; cases nw
    have g1 := e8 _ _ g1
    have g2 := e8 _ _ g2
    refine q_not (et_is (et_not (et_tru (ev_var rfl) (.lst hpw))) ?_) fun H9 e9 => ?_
    · obtain ⟨v, hv, hl⟩ := sm i hne0
      have : v ∈ ((lft (lvR W X) (l0R W C (k + 1) X) i).filter fun v => lvR W X (lft (lvR W X) (l0R W C (k + 1) X) i) v) := List.mem_filter.mpr ⟨hv, hl⟩
      cases e : ((lft (lvR W X) (l0R W C (k + 1) X) i).filter fun v => lvR W X (lft (lvR W X) (l0R W C (k + 1) X) i) v) with
      | nil => rw [e] at this; cases this
      | cons x l => rfl
    refine q_forC (xs := intV ((lft (lvR W X) (l0R W C (k + 1) X) i).filter fun v => lvR W X (lft (lvR W X) (l0R W C (k + 1) X) i) v)) (ev_var rfl) (fun j σ' H' => (∃ v, σ' = [some (.ref a), some (.int k), some (.ref c), some (.ref r), some (.ref pk), some (.ref pl), some (.int ((i : Int) + 1)), some (.ref pz), some (.ref pw), v]) ∧ Ex H H' ∧ H' pk = some (.lst (rowV W.n (markF (rnk (lvR W X) (l0R W C (k + 1) X) i) (((lft (lvR W X) (l0R W C (k + 1) X) i).filter fun v => lvR W X (lft (lvR W X) (l0R W C (k + 1) X) i) v).take j) ((i : Int) + 1)))) ∧
      H' pl = some (.lst (intV (lft (lvR W X) (l0R W C (k + 1) X) i))) ∧ H' pw = some (.lst (intV ((lft (lvR W X) (l0R W C (k + 1) X) i).filter fun v => lvR W X (lft (lvR W X) (l0R W C (k + 1) X) i) v)))) ?_ (fun j σ' H' h => h.2.2.2.2) ?_ ?_
    · intro H10 e10
      have e90 := e9.trans e10
      refine ⟨⟨_, rfl⟩, ee8.trans e90, ?_, e90 _ _ g2, e90 _ _ hpw⟩
      rw [e90 _ _ g1]
      rfl
    · rintro j x σ' H10 hi ⟨⟨v, rfl⟩, e10, a1, a2, a3⟩
      obtain ⟨n, hn2, rfl⟩ := intV_at hi
      have h1 : n ∈ ((lft (lvR W X) (l0R W C (k + 1) X) i).filter fun v => lvR W X (lft (lvR W X) (l0R W C (k + 1) X) i) v) := List.mem_of_getElem? hn2
      have b := hlin n (List.mem_filter.mp h1).1
      refine s_setR a1 (ev_var rfl) (ev_var rfl) (ev_var rfl) b.1 b.2.1 fun H11 e11 => ?_
      refine ⟨⟨_, rfl⟩, Ex.mut (e10.trans e11) nk, ?_, ?_, ?_⟩
      · rw [upd_same, take_more hn2]
        congr 2
        exact rowV_congr fun v _ _ => markF_more v
      · rw [upd_ne hne.symm]
        exact e11 _ _ a2
      · rw [upd_ne hnw.symm]
        exact e11 _ _ a3
    · rintro σ' H10 ⟨⟨v, rfl⟩, e10, a1, a2, a3⟩
      rw [intV_len, List.take_length, rowV_congr fun v _ _ => markF_rnk v] at a1
      refine s_asgL (el_lcF (l := lft (lvR W X) (l0R W C (k + 1) X) i) (p := fun v => !((lft (lvR W X) (l0R W C (k + 1) X) i).filter fun v => lvR W X (lft (lvR W X) (l0R W C (k + 1) X) i) v).contains v) (ea_of (ev_var rfl) (.lst a2)) (by omega) (fun _ => rfl) (fun v H11 e11 hv => et_test (ev_notin (ev_var rfl) (ev_var rfl) (.lst (e11 _ _ a3)))) (fun _ _ => ev_var rfl)) fun pq H11 nq e11 hpq => ?_
      rw [lft_next] at hpq
      have hneq : pk ≠ pq := fun z => by rw [← z, a1] at nq; cases nq
      refine ⟨(lft (lvR W X) (l0R W C (k + 1) X) (i + 1)).length, ?_, i + 1, pq, rfl, e10.trans e11, hneq, e11 _ _ a1, hpq, _, _, _, by rfl⟩
      obtain ⟨v, hv, hl⟩ := sm i hne0
      refine List.length_filter_lt_length_iff_exists.mpr ⟨v, hv, ?_⟩
      rw [hl]
      decide
  · have hemp : lft (lvR W X) (l0R W C (k + 1) X) i = [] := by
      cases e : lft (lvR W X) (l0R W C (k + 1) X) i with
      | nil => rfl
      | cons x l => rw [e] at hb; cases hb
    rw [hemp] at g2
    have hTn : rnk (lvR W X) (l0R W C (k + 1) X) i = rnk (lvR W X) (l0R W C (k + 1) X) W.n := by
      have h2 := lft_end sm (n := W.n) (l0R_len W C (k + 1) X)
      rcases Nat.le_total i W.n with h | h
      · exact ((rnk_stay hemp W.n h).2).symm
      · exact (rnk_stay h2 i h).2
    rw [hTn] at g1
    refine q_forC (p := pl) (xs := []) (ev_var rfl) (fun j σ' H' => σ' = [some (.ref a), some (.int k), some (.ref c), some (.ref r), some (.ref pk), some (.ref pl), some (.int (i : Int)), v7, v8, v9] ∧ Ex H4 H') (fun H6 e6 => ⟨rfl, e5.trans e6⟩) (fun j σ' H' h => h.2 _ _ g2) (fun j x σ' H' h => nomatch h) ?_
    rintro σ' H6 ⟨rfl, e6⟩
    refine s_retX (evx_pair (K := K) (evx_tupA (ev_var rfl) (.lst (e6 _ _ g1))) (fun x H7 e7 _ => evx_tupA (ev_var rfl) (.lst ((e6.trans e7) _ _ g2))) (fun x H7 H8 e ⟨p, ex, hp⟩ => ⟨p, ex, ex_t e hp⟩) (fun x H7 H8 e ⟨p, ex, hp⟩ => ⟨p, ex, ex_t e hp⟩)) fun y H7 e7 ⟨p, x, z, ey, hp, ⟨p1, ex, hp1⟩, _⟩ => ?_
    subst ey
    subst ex
    exact q p p1 z H7 ((e4.trans e6).trans e7) hp hp1
end
theorem d_call_fall_out {P : Program} {w : World} {K : Frag} {mg : Str → Option Value} {base : Heap} (T : Txt w K mg) {f : Addr} {cdv : Value} {A : Around} {outer : List Env} {s : Shared} {H : Hp} {E : XK} (hr : Room 4 (A.deeper (envOfC "call_fall_out" (defScope s_call_fall_out) s.heap.objs.size f cdv))) :
    PSs (cxOf CX0 P w K mg base N_call_fall_out "call_fall_out" (defScope s_call_fall_out) f cdv A outer s H E).nox (defBody s_call_fall_out) (t_call_fall_out K) := by
  exact (pss_cons (ps_set (i := 4) sc_call_fall_out.nd rfl (Or.inl rfl) (pe_op op_rep (pe_lst (pa_cons pe_int pa_nil)) (pe_W_size T (pv 0) hr (by decide))))
    (pss_cons (ps_set (i := 5) sc_call_fall_out.nd rfl (Or.inr rfl) (pe_lc (own := [("v", 9)]) (g := gName 9) (tt := (tAnd (tTest (tOp (rIn K true) (tVar 9) (tVar 2))) (tTest (tOp rLe (tOp (rIx K) (tVar 3) (tVar 9)) (tVar 1))))) (te := (tVar 9)) rfl sc_call_fall_out.nd (pi_seq (pe_W_moving T (pv 0) hr (by decide))) (blkOk_by (N := N_call_fall_out) (sc := defScope s_call_fall_out) (by decide +kernel)) (fun _ _ _ _ _ => pg_name (i := 9) sc_call_fall_out.nd rfl (Or.inl rfl)) (fun _ _ _ _ _ => pts_one (PW.pt (pw_and (pt_cmpR op_notIn_seq (pv 9) (pv 2) (by rfl)) (pw_and1 (pt_cmpR op_le (pe_ix ix_seq (pv 3) (pv 9) (fun _ _ => rfl)) (pv 1) (nomark _)))))) (fun _ _ _ _ _ => (pv 9))))
    (pss_cons (ps_set (i := 6) sc_call_fall_out.nd rfl (Or.inl rfl) pe_int)
    (pss_cons (ps_while PassesOwn.never (pt_truth (pv 5) (by intro _; rfl)) (pss_cons (ps_aug (i := 6) sc_call_fall_out.nd rfl (Or.inl rfl) pe_int ip_add)
    (pss_cons (ps_set (i := 7) sc_call_fall_out.nd rfl (Or.inr rfl) (pe_lc (own := [("v", 9)]) (g := gName 9) (tt := tYes) (te := (tIf (tTest (tOp (rIn K false) (tVar 9) (tVar 5))) (tOp rAdd (tOp (rIx K) (tVar 3) (tVar 9)) (tC (.int 1))) (tOp (rIx K) (tVar 3) (tVar 9)))) rfl sc_call_fall_out.nd (pi_range1 (by rfl) (T.free (memOf 1 rfl)) (pa_cons (pe_W_size T (pv 0) hr (by decide)) pa_nil)) (blkOk_by (N := N_call_fall_out) (sc := defScope s_call_fall_out) (by decide +kernel)) (fun _ _ _ _ _ => pg_name (i := 9) sc_call_fall_out.nd rfl (Or.inl rfl)) (fun _ _ _ _ _ => pts_nil) (fun _ _ _ _ _ => (pe_ifExp (pt_cmpR op_in_seq (pv 9) (pv 5) (by rfl)) (pe_op op_add (pe_ix ix_seq (pv 3) (pv 9) (fun _ _ => rfl)) pe_int) (pe_ix ix_seq (pv 3) (pv 9) (fun _ _ => rfl))))))
    (pss_cons (ps_set (i := 8) sc_call_fall_out.nd rfl (Or.inr rfl) (pe_lc (own := [("v", 9)]) (g := gName 9) (tt := (tTest (tOp rLe (tFn (sp_price_at K) (tCons (tVar 0) (tCons (tVar 1) (tCons (tVar 7) (tCons (tVar 9) tNil))))) (tOp (rIx K) (tVar 3) (tVar 9))))) (te := (tVar 9)) rfl sc_call_fall_out.nd (pi_seq (pv 5)) (blkOk_by (N := N_call_fall_out) (sc := defScope s_call_fall_out) (by decide +kernel)) (fun _ _ _ _ _ => pg_name (i := 9) sc_call_fall_out.nd rfl (Or.inl rfl)) (fun _ _ _ _ _ => pts_one (pt_cmpR op_le (pe_f (ok_price_at T) hr (by decide) (by rfl) (pa_cons (pv 0) (pa_cons (pv 1) (pa_cons (pv 7) (pa_cons (pv 9) pa_nil))))) (pe_ix ix_seq (pv 3) (pv 9) (fun _ _ => rfl)) (nomark _))) (fun _ _ _ _ _ => (pv 9))))
    (pss_cons (ps_if (pt_not (pt_truth (pv 8) (by intro _; rfl))) (pss_one ps_break) pss_nil)
    (pss_cons (ps_for PassesOwn.never rfl (pi_seq (pv 8)) (pg_name (i := 9) sc_call_fall_out.nd rfl (Or.inl rfl)) (pss_one (ps_asg (pv 6) (pg_sub (pv 4) (pv 9) set_list))))
    (pss_one (ps_set (i := 5) sc_call_fall_out.nd rfl (Or.inr rfl) (pe_lc (own := [("v", 9)]) (g := gName 9) (tt := (tTest (tOp (rIn K true) (tVar 9) (tVar 8)))) (te := (tVar 9)) rfl sc_call_fall_out.nd (pi_seq (pv 5)) (blkOk_by (N := N_call_fall_out) (sc := defScope s_call_fall_out) (by decide +kernel)) (fun _ _ _ _ _ => pg_name (i := 9) sc_call_fall_out.nd rfl (Or.inl rfl)) (fun _ _ _ _ _ => pts_one (pt_cmpR op_notIn_seq (pv 9) (pv 8) (by rfl))) (fun _ _ _ _ _ => (pv 9)))))))))))
    (pss_cons (ps_for PassesOwn.never rfl (pi_seq (pv 5)) (pg_name (i := 9) sc_call_fall_out.nd rfl (Or.inl rfl)) (pss_one (ps_asg pe_non (pg_sub (pv 4) (pv 9) set_list))))
    (pss_one (ps_ret (pe_tup (pa_cons (pe_callTy call_tuple_of (by rfl) (T.free (memOf 6 rfl)) b_tuple (pa_cons (pv 4) pa_nil)) (pa_cons (pe_callTy call_tuple_of (by rfl) (T.free (memOf 6 rfl)) b_tuple (pa_cons (pv 5) pa_nil)) pa_nil))))))))))
theorem ok_call_fall_out {P : Program} {w : World} {K : Frag} {mg : Str → Option Value} {base : Heap} (T : Txt w K mg) : GF P w K mg base "call_fall_out" 5 (sp_call_fall_out K) := by
  have F := T.def_ (d := xf_call_fall_out) (memOf 39 rfl) rfl
  refine ⟨fnr_mk (k := 4) F sc_call_fall_out (fun _ _ _ _ _ _ us hl => match us, hl with | [_, _, _, _], _ => rfl) (fun vs H Q E h => len_call_fall_out h) (fun cdv A outer s H vs Q E hr h => ⟨t_call_fall_out K, d_call_fall_out T hr, pure_call_fall_out T h⟩), ?_, T.glo (memOf 32 rfl)⟩
  obtain ⟨fd, F⟩ := F
  exact F.kp
theorem spx_call_fall_out {K : Frag} {H : Hp} {a c r : Addr} {W : Wb} {A : WA} {k : Int} {C : Int → Bool} {l : List Int} {X : Int → Int} (hw : WebAt K H a W A) (hc : CAt K H c W C l) (hr : SqA K H r (rowV W.n X)) (hk : 0 ≤ k) (hX : IsEver W C (k + 1) X) :
    SpX (sp_call_fall_out K) [.ref a, .int k, .ref c, .ref r] H (fun y H' => ∃ p p1 z, y = .ref p ∧ SqT K H' p [.ref p1, z] ∧ SqT K H' p1 (rowV W.n (rnk (lvR W X) (l0R W C (k + 1) X) W.n))) :=
  fun H1 e Q q E => ⟨a, W, A, k, c, C, l, r, X, rfl, hw.mono e, hc.mono e, hr.mono e, hk, hX, fun p p1 z H2 e2 hp hy => q _ H2 e2 ⟨p, p1, z, rfl, hp, hy⟩⟩
def sp_call_count_out (K : Frag) : Sp := fun vs H Q _ => ∃ a W A k c C l r X, vs = [.ref a, .int k, .ref c, .ref r] ∧ WebAt K H a W A ∧ CAt K H c W C l ∧ SqA K H r (rowV W.n X) ∧ 0 ≤ k ∧ IsEver W C (k + 1) X ∧
  ∀ p p1 z H', Ex H H' → SqT K H' p [.ref p1, z] → SqT K H' p1 (rowV W.n (rnk (lvC W C (k + 1) X) (l0C W X) W.n)) → Q (.ref p) H'
/-! call_count_out -/
abbrev N_call_count_out : List Str := ["web", "k", "called", "row", "counts", "left", "turn", "lessened", "after", "leaving", "v"]
abbrev s_call_count_out : Stmt := top 54
theorem sc_call_count_out : FnScope N_call_count_out ["web", "k", "called", "row"] (defScope s_call_count_out) := ⟨rfl, rfl, rfl, by decide +kernel, rfl, by decide +kernel, by decide +kernel⟩
def t_call_count_out (K : Frag) : TS := (tSeq (tAsg (tOp rRep (tLst (tCons (tC (.int 0)) tNil)) (tPW_size K (tVar 0))) (gName 4))
    (tSeq (tAsg (tLc (iSeq K (tPW_moving K (tVar 0))) (gName 10) (tTest (tOp rGe (tOp (rIx K) (tVar 3) (tVar 10)) (tC (.int 1)))) (tVar 10) [10]) (gName 5))
    (tSeq (tAsg (tC (.int 0)) (gName 6))
    (tSeq (tWhile (tTru K (tVar 5)) (tSeq (tAug 6 (tC (.int 1)) (ipI fun i j => i + j))
    (tSeq (tAsg (tLc (iRng1 (tCons (tPW_size K (tVar 0)) tNil)) (gName 10) tYes (tIf (tTest (tOp (rIn K false) (tVar 10) (tVar 5))) (tOp rSub (tOp (rIx K) (tVar 3) (tVar 10)) (tC (.int 1))) (tOp (rIx K) (tVar 3) (tVar 10))) [10]) (gName 7))
    (tSeq (tAsg (tFn (sp_round_of K) (tCons (tVar 0) (tCons (tVar 1) (tCons (tVar 2) (tCons (tVar 7) tNil))))) (gName 8))
    (tSeq (tAsg (tLc (iSeq K (tVar 5)) (gName 10) (tTest (tOp rGe (tOp (rIx K) (tVar 8) (tVar 10)) (tOp (rIx K) (tVar 3) (tVar 10)))) (tVar 10) [10]) (gName 9))
    (tSeq (tIfS (tNot (tTru K (tVar 9))) tBreak tNext)
    (tSeq (tFor (iSeq K (tVar 9)) (gName 10) (tAsg (tVar 6) (gSub (tVar 4) (tVar 10) rSetL)))
    (tAsg (tLc (iSeq K (tVar 5)) (gName 10) (tTest (tOp (rIn K true) (tVar 10) (tVar 9))) (tVar 10) [10]) (gName 5)))))))))
    (tSeq (tFor (iSeq K (tVar 5)) (gName 10) (tAsg (tC .non) (gSub (tVar 4) (tVar 10) rSetL)))
    (tRet (tTup (tCons (tCB (rTupS K) (tCons (tVar 4) tNil)) (tCons (tCB (rTupS K) (tCons (tVar 5) tNil)) tNil)))))))))
section
variable {w : World} {K : Frag} {mg : Str → Option Value} {vs : List V} {H : Hp} {Q : VK} {E : XK}
theorem len_call_count_out (h : sp_call_count_out K vs H Q E) : vs.length = 4 := by obtain ⟨a, W, A, k, c, C, l, r, X, rfl, _⟩ := h; rfl
theorem pure_call_count_out (T : Txt w K mg) (h : sp_call_count_out K vs H Q E) : t_call_count_out K (E1 Q) (start N_call_count_out vs) H := by
  obtain ⟨a, W, A, k, c, C, l, r, X, rfl, hw, hc, hr, hk, hX, q⟩ := h
  have hn := hw.n60
  have sm := someC hw.ok hX (by omega)
  refine q_asgL (el_rep1 (n := W.n) (el_lst (ea_cons ev_c ea_nil) (by show 1 ≤ 100000; decide)) (fun H1 e1 => ev_Wsize (ev_var rfl) (hw.mono e1)) (by omega)) fun pk H1 nk e1 hpk => ?_
  rw [rep_row] at hpk
  refine q_asgL (el_lcF (l := mvl W) (p := fun v => decide (1 ≤ X v)) (ea_of (ev_Wmoving (ev_var rfl) (hw.mono e1)) (hw.hv.mono e1)) (by have := mvl_len W; omega) (fun _ => rfl) (fun v H2 e2 hv => ?_) (fun _ _ => ev_var rfl)) fun pl H2 nl e2 hpl => ?_
  · obtain ⟨b0, b1, b2⟩ := mem_mvl.mp hv
    exact et_test (ev_I (ev_ixR (ev_var rfl) (ev_var rfl) (hr.mono (e1.trans e2)) b0 b1) ev_c)
  rw [l0C_mvl] at hpl
  have hne : pk ≠ pl := fun z => by rw [← z, hpk] at nl; cases nl
  refine q_asg ev_c fun H3 e3 => ?_
  refine q_while (fun m σ' H' => ∃ i pl, m = (lft (lvC W C (k + 1) X) (l0C W X) i).length ∧ Ex H H' ∧ pk ≠ pl ∧ H' pk = some (.lst (rowV W.n (rnk (lvC W C (k + 1) X) (l0C W X) i))) ∧ H' pl = some (.lst (intV (lft (lvC W C (k + 1) X) (l0C W X) i))) ∧
    ∃ v7 v8 v9 v10, σ' = [some (.ref a), some (.int k), some (.ref c), some (.ref r), some (.ref pk), some (.ref pl), some (.int (i : Int)), v7, v8, v9, v10]) _ ⟨0, pl, rfl, e1.trans (e2.trans e3), hne, (e2.trans e3) _ _ hpk, e3 _ _ hpl, _, _, _, _, rfl⟩ ?_
  rintro m σ' H4 ⟨i, pl, rfl, e4, hne, g1, g2, v7, v8, v9, v10, rfl⟩
  have hll := Nat.le_trans (lft_slen (lv := lvC W C (k + 1) X) (l0 := l0C W X) i) (l0C_len W X)
  have hlin : ∀ v, v ∈ lft (lvC W C (k + 1) X) (l0C W X) i → 0 ≤ v ∧ v < W.n ∧ W.mov v = true := fun v hv => by
    have := mem_l0C.mp (lft_anti (Nat.zero_le i) hv)
    exact ⟨this.1, this.2.1, this.2.2.1⟩
  refine ⟨_, et_tru (ev_var rfl) (.lst g2), fun hb H5 e5 => ⟨_, fun σ2 H2 h => h, ?_⟩, fun hb H5 e5 => ?_⟩
  · have hne0 : lft (lvC W C (k + 1) X) (l0C W X) i ≠ [] := fun z => by rw [z] at hb; cases hb
    refine q_aug rfl ev_c fun H6 e6 => ?_
    have ee := e4.trans (e5.trans e6)
    have g1 := (e5.trans e6) _ _ g1
    have g2 := (e5.trans e6) _ _ g2
    refine q_asgL (el_lrR (n := W.n) (g := dn1 X fun w => (lft (lvC W C (k + 1) X) (l0C W X) i).contains w) (ea_cons (ev_Wsize (ev_var rfl) (hw.mono ee)) ea_nil) (by omega) (fun _ => rfl) (fun v H7 e7 h0 h1 =>
      ev_pick (et_test (ev_in (ev_var rfl) (ev_var rfl) (.lst (e7 _ _ g2)))) (ev_I (ev_ixR (ev_var rfl) (ev_var rfl) (hr.mono (ee.trans e7)) h0 h1) ev_c) (ev_ixR (ev_var rfl) (ev_var rfl) (hr.mono (ee.trans e7)) h0 h1))) fun pz H7 nz e7 hpz => ?_
    have ee7 := ee.trans e7
    have g1 := e7 _ _ g1
    have g2 := e7 _ _ g2
    have hge : ∀ v, v ∈ lft (lvC W C (k + 1) X) (l0C W X) i → 1 ≤ X v := fun v hv => (mem_l0C.mp (lft_anti (Nat.zero_le i) hv)).2.2.2
    refine q_asgX (evx_fn (ea_cons (ev_var rfl) (ea_cons (ev_var rfl) (ea_cons (ev_var rfl) (ea_cons (ev_var rfl) ea_nil)))) (spx_round_of (hw.mono ee7) (hc.mono ee7) (.lst hpz) hk fun v h0 h1 => ?_)) fun y H72 e72 ⟨py, Y, ey, hpy, hY⟩ => ?_
    · have := (hX.rng v h0 h1).1
      unfold dn1
      split
      · rename_i z
        have := hge v (List.contains_iff_mem.mp z)
        omega
      · exact this
    subst ey
    have hrn := rnd_eq hY
    have ee72 := ee7.trans e72
    have g1 := e72 _ _ g1
    have g2 := e72 _ _ g2
    refine q_asgL (el_lcF (l := lft (lvC W C (k + 1) X) (l0C W X) i) (p := fun v => lvC W C (k + 1) X (lft (lvC W C (k + 1) X) (l0C W X) i) v) (ea_of (ev_var rfl) (.lst g2)) (by omega) (fun _ => rfl) (fun v H8 e8 hv => ?_) (fun _ _ => ev_var rfl)) fun pw H8 nw e8 hpw => ?_
    · have b := hlin v hv
      refine et_is (et_test (ev_I (ev_ixR (ev_var rfl) (ev_var rfl) (.t (ex_t e8 hpy)) b.1 b.2.1) (ev_ixR (ev_var rfl) (ev_var rfl) (hr.mono (ee72.trans e8)) b.1 b.2.1))) ?_
      show decide (X v ≤ Y v) = decide (X v ≤ rnd W C (k + 1) _ v)
      rw [hrn v b.1 b.2.1]
    have ee8 := ee72.trans e8
    have hnw : pk ≠ pw := fun z => by rw [← z, g1] at nw; cases nw
    have g1 := e8 _ _ g1
    have g2 := e8 _ _ g2
    refine q_not (et_is (et_not (et_tru (ev_var rfl) (.lst hpw))) ?_) fun H9 e9 => ?_
    · obtain ⟨v, hv, hl⟩ := sm i hne0
      have : v ∈ ((lft (lvC W C (k + 1) X) (l0C W X) i).filter fun v => lvC W C (k + 1) X (lft (lvC W C (k + 1) X) (l0C W X) i) v) := List.mem_filter.mpr ⟨hv, hl⟩
      cases e : ((lft (lvC W C (k + 1) X) (l0C W X) i).filter fun v => lvC W C (k + 1) X (lft (lvC W C (k + 1) X) (l0C W X) i) v) with
      | nil => rw [e] at this; cases this
      | cons x l => rfl
    refine q_forC (xs := intV ((lft (lvC W C (k + 1) X) (l0C W X) i).filter fun v => lvC W C (k + 1) X (lft (lvC W C (k + 1) X) (l0C W X) i) v)) (ev_var rfl) (fun j σ' H' => (∃ v, σ' = [some (.ref a), some (.int k), some (.ref c), some (.ref r), some (.ref pk), some (.ref pl), some (.int ((i : Int) + 1)), some (.ref pz), some (.ref py), some (.ref pw), v]) ∧ Ex H H' ∧ H' pk = some (.lst (rowV W.n (markF (rnk (lvC W C (k + 1) X) (l0C W X) i) (((lft (lvC W C (k + 1) X) (l0C W X) i).filter fun v => lvC W C (k + 1) X (lft (lvC W C (k + 1) X) (l0C W X) i) v).take j) ((i : Int) + 1)))) ∧
      H' pl = some (.lst (intV (lft (lvC W C (k + 1) X) (l0C W X) i))) ∧ H' pw = some (.lst (intV ((lft (lvC W C (k + 1) X) (l0C W X) i).filter fun v => lvC W C (k + 1) X (lft (lvC W C (k + 1) X) (l0C W X) i) v)))) ?_ (fun j σ' H' h => h.2.2.2.2) ?_ ?_
    · intro H10 e10
      have e90 := e9.trans e10
      refine ⟨⟨_, rfl⟩, ee8.trans e90, ?_, e90 _ _ g2, e90 _ _ hpw⟩
      rw [e90 _ _ g1]
      rfl
    · rintro j x σ' H10 hi ⟨⟨v, rfl⟩, e10, a1, a2, a3⟩
      obtain ⟨n, hn2, rfl⟩ := intV_at hi
      have h1 : n ∈ ((lft (lvC W C (k + 1) X) (l0C W X) i).filter fun v => lvC W C (k + 1) X (lft (lvC W C (k + 1) X) (l0C W X) i) v) := List.mem_of_getElem? hn2
      have b := hlin n (List.mem_filter.mp h1).1
      refine s_setR a1 (ev_var rfl) (ev_var rfl) (ev_var rfl) b.1 b.2.1 fun H11 e11 => ?_
      refine ⟨⟨_, rfl⟩, Ex.mut (e10.trans e11) nk, ?_, ?_, ?_⟩
      · rw [upd_same, take_more hn2]
        congr 2
        exact rowV_congr fun v _ _ => markF_more v
      · rw [upd_ne hne.symm]
        exact e11 _ _ a2
      · rw [upd_ne hnw.symm]
        exact e11 _ _ a3
    · rintro σ' H10 ⟨⟨v, rfl⟩, e10, a1, a2, a3⟩
      rw [intV_len, List.take_length, rowV_congr fun v _ _ => markF_rnk v] at a1
      refine s_asgL (el_lcF (l := lft (lvC W C (k + 1) X) (l0C W X) i) (p := fun v => !((lft (lvC W C (k + 1) X) (l0C W X) i).filter fun v => lvC W C (k + 1) X (lft (lvC W C (k + 1) X) (l0C W X) i) v).contains v) (ea_of (ev_var rfl) (.lst a2)) (by omega) (fun _ => rfl) (fun v H11 e11 hv => et_test (ev_notin (ev_var rfl) (ev_var rfl) (.lst (e11 _ _ a3)))) (fun _ _ => ev_var rfl)) fun pq H11 nq e11 hpq => ?_
      rw [lft_next] at hpq
      have hneq : pk ≠ pq := fun z => by rw [← z, a1] at nq; cases nq
      refine ⟨(lft (lvC W C (k + 1) X) (l0C W X) (i + 1)).length, ?_, i + 1, pq, rfl, e10.trans e11, hneq, e11 _ _ a1, hpq, _, _, _, _, by rfl⟩
      obtain ⟨v, hv, hl⟩ := sm i hne0
      refine List.length_filter_lt_length_iff_exists.mpr ⟨v, hv, ?_⟩
      rw [hl]
      decide
  · have hemp : lft (lvC W C (k + 1) X) (l0C W X) i = [] := by
      cases e : lft (lvC W C (k + 1) X) (l0C W X) i with
      | nil => rfl
      | cons x l => rw [e] at hb; cases hb
    rw [hemp] at g2
    have hTn : rnk (lvC W C (k + 1) X) (l0C W X) i = rnk (lvC W C (k + 1) X) (l0C W X) W.n := by
      have h2 := lft_end sm (n := W.n) (l0C_len W X)
      rcases Nat.le_total i W.n with h | h
      · exact ((rnk_stay hemp W.n h).2).symm
      · exact (rnk_stay h2 i h).2
    rw [hTn] at g1
    refine q_forC (p := pl) (xs := []) (ev_var rfl) (fun j σ' H' => σ' = [some (.ref a), some (.int k), some (.ref c), some (.ref r), some (.ref pk), some (.ref pl), some (.int (i : Int)), v7, v8, v9, v10] ∧ Ex H4 H') (fun H6 e6 => ⟨rfl, e5.trans e6⟩) (fun j σ' H' h => h.2 _ _ g2) (fun j x σ' H' h => nomatch h) ?_
    rintro σ' H6 ⟨rfl, e6⟩
    refine s_retX (evx_pair (K := K) (evx_tupA (ev_var rfl) (.lst (e6 _ _ g1))) (fun x H7 e7 _ => evx_tupA (ev_var rfl) (.lst ((e6.trans e7) _ _ g2))) (fun x H7 H8 e ⟨p, ex, hp⟩ => ⟨p, ex, ex_t e hp⟩) (fun x H7 H8 e ⟨p, ex, hp⟩ => ⟨p, ex, ex_t e hp⟩)) fun y H7 e7 ⟨p, x, z, ey, hp, ⟨p1, ex, hp1⟩, _⟩ => ?_
    subst ey
    subst ex
    exact q p p1 z H7 ((e4.trans e6).trans e7) hp hp1
end
theorem d_call_count_out {P : Program} {w : World} {K : Frag} {mg : Str → Option Value} {base : Heap} (T : Txt w K mg) {f : Addr} {cdv : Value} {A : Around} {outer : List Env} {s : Shared} {H : Hp} {E : XK} (hr : Room 6 (A.deeper (envOfC "call_count_out" (defScope s_call_count_out) s.heap.objs.size f cdv))) :
    PSs (cxOf CX0 P w K mg base N_call_count_out "call_count_out" (defScope s_call_count_out) f cdv A outer s H E).nox (defBody s_call_count_out) (t_call_count_out K) := by
  exact (pss_cons (ps_set (i := 4) sc_call_count_out.nd rfl (Or.inl rfl) (pe_op op_rep (pe_lst (pa_cons pe_int pa_nil)) (pe_W_size T (pv 0) hr (by decide))))
    (pss_cons (ps_set (i := 5) sc_call_count_out.nd rfl (Or.inr rfl) (pe_lc (own := [("v", 10)]) (g := gName 10) (tt := (tTest (tOp rGe (tOp (rIx K) (tVar 3) (tVar 10)) (tC (.int 1))))) (te := (tVar 10)) rfl sc_call_count_out.nd (pi_seq (pe_W_moving T (pv 0) hr (by decide))) (blkOk_by (N := N_call_count_out) (sc := defScope s_call_count_out) (by decide +kernel)) (fun _ _ _ _ _ => pg_name (i := 10) sc_call_count_out.nd rfl (Or.inl rfl)) (fun _ _ _ _ _ => pts_one (pt_cmpR op_ge (pe_ix ix_seq (pv 3) (pv 10) (fun _ _ => rfl)) pe_int (nomark _))) (fun _ _ _ _ _ => (pv 10))))
    (pss_cons (ps_set (i := 6) sc_call_count_out.nd rfl (Or.inl rfl) pe_int)
    (pss_cons (ps_while PassesOwn.never (pt_truth (pv 5) (by intro _; rfl)) (pss_cons (ps_aug (i := 6) sc_call_count_out.nd rfl (Or.inl rfl) pe_int ip_add)
    (pss_cons (ps_setLc (i := 7) (own := [("v", 10)]) (g := gName 10) (tt := tYes) (te := (tIf (tTest (tOp (rIn K false) (tVar 10) (tVar 5))) (tOp rSub (tOp (rIx K) (tVar 3) (tVar 10)) (tC (.int 1))) (tOp (rIx K) (tVar 3) (tVar 10)))) rfl sc_call_count_out.nd rfl rfl (sw_true rfl rfl rfl (by decide +kernel)) (pi_range1 (by rfl) (T.free (memOf 1 rfl)) (pa_cons (pe_W_size T (pv 0) hr (by decide)) pa_nil)) (blkOk_by (N := N_call_count_out) (sc := defScope s_call_count_out) (by decide +kernel)) (fun _ _ _ _ _ => pg_name (i := 10) sc_call_count_out.nd rfl (Or.inl rfl)) (fun _ _ _ _ _ => pts_nil) (fun _ _ _ _ _ => (pe_ifExp (pt_cmpR op_in_seq (pv 10) (pv 5) (by rfl)) (pe_op op_sub (pe_ix ix_seq (pv 3) (pv 10) (fun _ _ => rfl)) pe_int) (pe_ix ix_seq (pv 3) (pv 10) (fun _ _ => rfl)))))
    (pss_cons (ps_set (i := 8) sc_call_count_out.nd rfl (Or.inr rfl) (pe_f (ok_round_of T) hr (by decide) (by rfl) (pa_cons (pv 0) (pa_cons (pv 1) (pa_cons (pv 2) (pa_cons (pv 7) pa_nil))))))
    (pss_cons (ps_set (i := 9) sc_call_count_out.nd rfl (Or.inr rfl) (pe_lc (own := [("v", 10)]) (g := gName 10) (tt := (tTest (tOp rGe (tOp (rIx K) (tVar 8) (tVar 10)) (tOp (rIx K) (tVar 3) (tVar 10))))) (te := (tVar 10)) rfl sc_call_count_out.nd (pi_seq (pv 5)) (blkOk_by (N := N_call_count_out) (sc := defScope s_call_count_out) (by decide +kernel)) (fun _ _ _ _ _ => pg_name (i := 10) sc_call_count_out.nd rfl (Or.inl rfl)) (fun _ _ _ _ _ => pts_one (pt_cmpR op_ge (pe_ix ix_seq (pv 8) (pv 10) (fun _ _ => rfl)) (pe_ix ix_seq (pv 3) (pv 10) (fun _ _ => rfl)) (nomark _))) (fun _ _ _ _ _ => (pv 10))))
    (pss_cons (ps_if (pt_not (pt_truth (pv 9) (by intro _; rfl))) (pss_one ps_break) pss_nil)
    (pss_cons (ps_for PassesOwn.never rfl (pi_seq (pv 9)) (pg_name (i := 10) sc_call_count_out.nd rfl (Or.inl rfl)) (pss_one (ps_asg (pv 6) (pg_sub (pv 4) (pv 10) set_list))))
    (pss_one (ps_set (i := 5) sc_call_count_out.nd rfl (Or.inr rfl) (pe_lc (own := [("v", 10)]) (g := gName 10) (tt := (tTest (tOp (rIn K true) (tVar 10) (tVar 9)))) (te := (tVar 10)) rfl sc_call_count_out.nd (pi_seq (pv 5)) (blkOk_by (N := N_call_count_out) (sc := defScope s_call_count_out) (by decide +kernel)) (fun _ _ _ _ _ => pg_name (i := 10) sc_call_count_out.nd rfl (Or.inl rfl)) (fun _ _ _ _ _ => pts_one (pt_cmpR op_notIn_seq (pv 10) (pv 9) (by rfl))) (fun _ _ _ _ _ => (pv 10))))))))))))
    (pss_cons (ps_for PassesOwn.never rfl (pi_seq (pv 5)) (pg_name (i := 10) sc_call_count_out.nd rfl (Or.inl rfl)) (pss_one (ps_asg pe_non (pg_sub (pv 4) (pv 10) set_list))))
    (pss_one (ps_ret (pe_tup (pa_cons (pe_callTy call_tuple_of (by rfl) (T.free (memOf 6 rfl)) b_tuple (pa_cons (pv 4) pa_nil)) (pa_cons (pe_callTy call_tuple_of (by rfl) (T.free (memOf 6 rfl)) b_tuple (pa_cons (pv 5) pa_nil)) pa_nil))))))))))
theorem ok_call_count_out {P : Program} {w : World} {K : Frag} {mg : Str → Option Value} {base : Heap} (T : Txt w K mg) : GF P w K mg base "call_count_out" 7 (sp_call_count_out K) := by
  have F := T.def_ (d := xf_call_count_out) (memOf 40 rfl) rfl
  refine ⟨fnr_mk (k := 6) F sc_call_count_out (fun _ _ _ _ _ _ us hl => match us, hl with | [_, _, _, _], _ => rfl) (fun vs H Q E h => len_call_count_out h) (fun cdv A outer s H vs Q E hr h => ⟨t_call_count_out K, d_call_count_out T hr, pure_call_count_out T h⟩), ?_, T.glo (memOf 33 rfl)⟩
  obtain ⟨fd, F⟩ := F
  exact F.kp
theorem spx_call_count_out {K : Frag} {H : Hp} {a c r : Addr} {W : Wb} {A : WA} {k : Int} {C : Int → Bool} {l : List Int} {X : Int → Int} (hw : WebAt K H a W A) (hc : CAt K H c W C l) (hr : SqA K H r (rowV W.n X)) (hk : 0 ≤ k) (hX : IsEver W C (k + 1) X) :
    SpX (sp_call_count_out K) [.ref a, .int k, .ref c, .ref r] H (fun y H' => ∃ p p1 z, y = .ref p ∧ SqT K H' p [.ref p1, z] ∧ SqT K H' p1 (rowV W.n (rnk (lvC W C (k + 1) X) (l0C W X) W.n))) :=
  fun H1 e Q q E => ⟨a, W, A, k, c, C, l, r, X, rfl, hw.mono e, hc.mono e, hr.mono e, hk, hX, fun p p1 z H2 e2 hp hy => q _ H2 e2 ⟨p, p1, z, rfl, hp, hy⟩⟩
end Pw
end

section
set_option maxRecDepth 100000
set_option maxHeartbeats 4000000
/-! Papers. -/
namespace Pw
open PySem PySem.Spec L2 Evl StX PwS SlX
open PyProof.Rows hiding St
section
variable {K : Frag} {σ : L2.St} {H H0 : Hp} {ta tb tc tv : TE} {D : Ends} {tz : TS} {x dx C p : Addr} {xs : List V} {P : V → Hp → Prop}
theorem ev_chain {i j k : Int} (ha : Ev ta σ H (.int i)) (hb : Ev tb σ H (.int j)) (hc : Ev tc σ H (.int k)) (h1 : i ≤ j) (h2 : j ≤ k) : Ev (tChain rLe rLe ta tb tc) σ H (.bl true) := fun H1 e Q q =>
  ha H1 e _ fun H2 e2 => hb H2 (e.trans e2) _ fun H3 e3 => ⟨i, j, rfl, rfl, true, by show V.bl (decide (i ≤ j)) = _; rw [decide_eq_true h1], hc H3 ((e.trans e2).trans e3) _ fun H4 e4 => ⟨j, k, rfl, rfl, by
    show Q (.bl (decide (j ≤ k))) H4
    rw [decide_eq_true h2]
    exact q H4 ((e2.trans e3).trans e4)⟩⟩
theorem sqT_upd {o : HO} (h : SqT K H p xs) (hx : ∀ ys, H x ≠ some (.tup ys)) (hf : ∀ ob u, H x ≠ some (.frz ob u)) : SqT K (upd H x o) p xs := by
  rcases h with h | h
  · left
    rcases h with h | ⟨ob, h⟩
    · left
      rw [upd_ne fun z => hx xs (by rw [← z]; exact h)]
      exact h
    · right
      refine ⟨ob, ?_⟩
      rw [upd_ne fun z => hf ob _ (by rw [← z]; exact h)]
      exact h
  · exact .inr h
theorem slO_tup {a C dx : Addr} {vs : List (Option V)} {ys : List V} : SlO a C dx vs ≠ .tup ys := fun z => by
  unfold SlO at z
  cases z
theorem slO_frz {a C dx : Addr} {vs : List (Option V)} {o : Obj} {u : HO} : SlO a C dx vs ≠ .frz o u := fun z => by
  unfold SlO at z
  cases z
/-- an object with slots that is being filled; H0 knows nothing of it -/
structure Fill (H0 H : Hp) (x C dx : Addr) (ws : List (Option V)) : Prop where
  ex : Ex H0 H
  nx : H0 x = none
  nd : H0 dx = none
  ne : dx ≠ x
  sl : Slt H x C dx ws
  own : H dx = some (.own x) ∨ H dx = some (.xd [])
theorem Fill.mono {H' : Hp} {ws : List (Option V)} (e : Ex H H') (h : Fill H0 H x C dx ws) : Fill H0 H' x C dx ws := ⟨h.ex.trans e, h.nx, h.nd, h.ne, slt_mono e h.sl, h.own.elim (fun z => .inl (e _ _ z)) fun z => .inr (e _ _ z)⟩
theorem Fill.made (h1 : H0 x = none) (h2 : H0 dx = none) (h : dx ≠ x) : Fill H0 (upd (upd H0 dx (.own x)) x (.ins C dx [])) x C dx [] :=
  ⟨Ex.mut (Ex.mut (Ex.refl _) h2) h1, h1, h2, h, .inl ⟨upd_same, rfl⟩, .inl (by rw [upd_ne h, upd_same])⟩
theorem Fill.put {ws ws' : List (Option V)} (h : Fill H0 H x C dx ws) : Fill H0 (slH H x C dx ws') x C dx ws' ∧ ∀ p xs, SqT K H p xs → SqT K (slH H x C dx ws') p xs := by
  refine ⟨⟨Ex.mut (Ex.mut h.ex h.nd) h.nx, h.nx, h.nd, h.ne, slH_slt h.ne, .inr (by unfold slH; rw [upd_ne h.ne, upd_same])⟩, fun p xs hp => ?_⟩
  have d1 : ∀ ys, H dx ≠ some (.tup ys) := fun ys z => by rcases h.own with q | q <;> (rw [q] at z; cases z)
  have d2 : ∀ ob u, H dx ≠ some (.frz ob u) := fun ob u z => by rcases h.own with q | q <;> (rw [q] at z; cases z)
  have x1 : ∀ ys, H x ≠ some (.tup ys) := fun ys z => by
    rcases h.sl with q | q
    · rw [q.1] at z; cases z
    · rw [q.1] at z; exact slO_tup (Option.some.inj z)
  have x2 : ∀ ob u, H x ≠ some (.frz ob u) := fun ob u z => by
    rcases h.sl with q | q
    · rw [q.1] at z; cases z
    · rw [q.1] at z; exact slO_frz (Option.some.inj z)
  unfold slH
  refine sqT_upd (sqT_upd hp d1 d2) (fun ys => ?_) fun ob u => ?_
  · rw [upd_ne h.ne.symm]; exact x1 ys
  · rw [upd_ne h.ne.symm]; exact x2 ob u
theorem s_sl {f : Str} {q : Addr} {i : Nat} {ws : List (Option V)} (F : Fill H0 H x C dx ws) (h : EvX tv σ H P) (ho : Ev ta σ H (.ref x)) (c : SCls K C) (s1 : Slot1 K C f q i)
    (k : ∀ v H1 H2, Ex H H1 → P v H1 → Fill H0 H2 x C dx (putS i v ws) → (∀ p xs, SqT K H1 p xs → SqT K H2 p xs) → D.nx σ H2) : sSl K ta tv f D σ H := h H (Ex.refl _) _ fun v H1 e hp => by
  refine ho H1 e _ fun H2 e2 => ⟨x, C, dx, q, ws, i, rfl, slt_mono (e.trans e2) F.sl, c, s1, ?_⟩
  have F2 := (F.mono (e.trans e2)).put (K := K) (ws' := putS i v ws)
  exact k v H1 _ e hp F2.1 fun p xs h => F2.2 p xs (ex_t e2 h)
theorem q_sl {f : Str} {q : Addr} {i : Nat} {ws : List (Option V)} (F : Fill H0 H x C dx ws) (h : EvX tv σ H P) (ho : Ev ta σ H (.ref x)) (c : SCls K C) (s1 : Slot1 K C f q i)
    (k : ∀ v H1 H2, Ex H H1 → P v H1 → Fill H0 H2 x C dx (putS i v ws) → (∀ p xs, SqT K H1 p xs → SqT K H2 p xs) → tz D σ H2) : tSeq (sSl K ta tv f) tz D σ H := s_sl (D := { D with nx := tz D }) F h ho c s1 k
end
theorem ev_all {K : Frag} {σ : L2.St} {H : Hp} {ta : TE} {bs : List Bool} (ha : EvL ta σ H (bs.map V.bl)) : Ev (tCB (rAll K) (tCons ta tNil)) σ H (.bl (bs.all id)) := fun H1 e Q q =>
  ha H1 e _ fun p H2 _ e2 hp => ⟨p, bs, rfl, sq_of hp, q H2 e2⟩
def sp_raised_row (K : Frag) : Sp := fun vs H Q _ => ∃ r q t n X rk, vs = [.ref r, .ref q, .int t] ∧ SqA K H r (rowV n X) ∧ SqA K H q (rowV n rk) ∧ n ≤ 60 ∧ RetL (rowV n (up1 X fun w => decide (t ≤ rk w))) H Q
/-! raised_row -/
abbrev N_raised_row : List Str := ["row", "ranks", "rank", "v"]
abbrev s_raised_row : Stmt := top 60
theorem sc_raised_row : FnScope N_raised_row ["row", "ranks", "rank"] (defScope s_raised_row) := ⟨rfl, rfl, rfl, by decide +kernel, rfl, by decide +kernel, by decide +kernel⟩
def t_raised_row (K : Frag) : TS := (tRet (tLc (iRng1 (tCons (tCB (rLenS K) (tCons (tVar 0) tNil)) tNil)) (gName 3) tYes (tIf (tTest (tOp rGe (tOp (rIx K) (tVar 1) (tVar 3)) (tVar 2))) (tOp rAdd (tOp (rIx K) (tVar 0) (tVar 3)) (tC (.int 1))) (tOp (rIx K) (tVar 0) (tVar 3))) [3]))
section
variable {w : World} {K : Frag} {mg : Str → Option Value} {vs : List V} {H : Hp} {Q : VK} {E : XK}
theorem len_raised_row (h : sp_raised_row K vs H Q E) : vs.length = 3 := by obtain ⟨r, q, t, n, X, rk, rfl, _⟩ := h; rfl
theorem pure_raised_row (T : Txt w K mg) (h : sp_raised_row K vs H Q E) : t_raised_row K (E1 Q) (start N_raised_row vs) H := by
  obtain ⟨r, q, t, n, X, rk, rfl, hr, hq, hn, k⟩ := h
  exact s_retL (el_lrR (g := up1 X fun w => decide (t ≤ rk w)) (ea_cons (ev_lenR (ev_var rfl) hr) ea_nil) (by omega) (fun _ => rfl) (fun v H1 e1 h0 h1 => ev_pick (et_test (ev_I (ev_ixR (ev_var rfl) (ev_var rfl) (hq.mono e1) h0 h1) (ev_var rfl))) (ev_I (ev_ixR (ev_var rfl) (ev_var rfl) (hr.mono e1) h0 h1) ev_c) (ev_ixR (ev_var rfl) (ev_var rfl) (hr.mono e1) h0 h1))) k
end
theorem d_raised_row {P : Program} {w : World} {K : Frag} {mg : Str → Option Value} {base : Heap} (T : Txt w K mg) {f : Addr} {cdv : Value} {A : Around} {outer : List Env} {s : Shared} {H : Hp} {E : XK} (hr : Room 0 (A.deeper (envOfC "raised_row" (defScope s_raised_row) s.heap.objs.size f cdv))) :
    PSs (cxOf CX0 P w K mg base N_raised_row "raised_row" (defScope s_raised_row) f cdv A outer s H E).nox (defBody s_raised_row) (t_raised_row K) := by
  exact (pss_one (ps_ret (pe_lc (own := [("v", 3)]) (g := gName 3) (tt := tYes) (te := (tIf (tTest (tOp rGe (tOp (rIx K) (tVar 1) (tVar 3)) (tVar 2))) (tOp rAdd (tOp (rIx K) (tVar 0) (tVar 3)) (tC (.int 1))) (tOp (rIx K) (tVar 0) (tVar 3)))) rfl sc_raised_row.nd (pi_range1 (by rfl) (T.free (memOf 1 rfl)) (pa_cons (pe_callB call_len_seq (by rfl) (T.free (memOf 0 rfl)) b_len (pa_cons (pv 0) pa_nil)) pa_nil)) (blkOk_by (N := N_raised_row) (sc := defScope s_raised_row) (by decide +kernel)) (fun _ _ _ _ _ => pg_name (i := 3) sc_raised_row.nd rfl (Or.inl rfl)) (fun _ _ _ _ _ => pts_nil) (fun _ _ _ _ _ => (pe_ifExp (pt_cmpR op_ge (pe_ix ix_seq (pv 1) (pv 3) (fun _ _ => rfl)) (pv 2) (nomark _)) (pe_op op_add (pe_ix ix_seq (pv 0) (pv 3) (fun _ _ => rfl)) pe_int) (pe_ix ix_seq (pv 0) (pv 3) (fun _ _ => rfl)))))))
theorem ok_raised_row {P : Program} {w : World} {K : Frag} {mg : Str → Option Value} {base : Heap} (T : Txt w K mg) : GF P w K mg base "raised_row" 1 (sp_raised_row K) := by
  have F := T.def_ (d := xf_raised_row) (memOf 44 rfl) rfl
  refine ⟨fnr_mk (k := 0) F sc_raised_row (fun _ _ _ _ _ _ us hl => match us, hl with | [_, _, _], _ => rfl) (fun vs H Q E h => len_raised_row h) (fun cdv A outer s H vs Q E hr h => ⟨t_raised_row K, d_raised_row T hr, pure_raised_row T h⟩), ?_, T.glo (memOf 37 rfl)⟩
  obtain ⟨fd, F⟩ := F
  exact F.kp
def sp_lessened_row (K : Frag) : Sp := fun vs H Q _ => ∃ r q t n X rk, vs = [.ref r, .ref q, .int t] ∧ SqA K H r (rowV n X) ∧ SqA K H q (rowV n rk) ∧ n ≤ 60 ∧ RetL (rowV n (dn1 X fun w => decide (t ≤ rk w))) H Q
/-! lessened_row -/
abbrev N_lessened_row : List Str := ["row", "counts", "count", "v"]
abbrev s_lessened_row : Stmt := top 63
theorem sc_lessened_row : FnScope N_lessened_row ["row", "counts", "count"] (defScope s_lessened_row) := ⟨rfl, rfl, rfl, by decide +kernel, rfl, by decide +kernel, by decide +kernel⟩
def t_lessened_row (K : Frag) : TS := (tRet (tLc (iRng1 (tCons (tCB (rLenS K) (tCons (tVar 0) tNil)) tNil)) (gName 3) tYes (tIf (tTest (tOp rGe (tOp (rIx K) (tVar 1) (tVar 3)) (tVar 2))) (tOp rSub (tOp (rIx K) (tVar 0) (tVar 3)) (tC (.int 1))) (tOp (rIx K) (tVar 0) (tVar 3))) [3]))
section
variable {w : World} {K : Frag} {mg : Str → Option Value} {vs : List V} {H : Hp} {Q : VK} {E : XK}
theorem len_lessened_row (h : sp_lessened_row K vs H Q E) : vs.length = 3 := by obtain ⟨r, q, t, n, X, rk, rfl, _⟩ := h; rfl
theorem pure_lessened_row (T : Txt w K mg) (h : sp_lessened_row K vs H Q E) : t_lessened_row K (E1 Q) (start N_lessened_row vs) H := by
  obtain ⟨r, q, t, n, X, rk, rfl, hr, hq, hn, k⟩ := h
  exact s_retL (el_lrR (g := dn1 X fun w => decide (t ≤ rk w)) (ea_cons (ev_lenR (ev_var rfl) hr) ea_nil) (by omega) (fun _ => rfl) (fun v H1 e1 h0 h1 => ev_pick (et_test (ev_I (ev_ixR (ev_var rfl) (ev_var rfl) (hq.mono e1) h0 h1) (ev_var rfl))) (ev_I (ev_ixR (ev_var rfl) (ev_var rfl) (hr.mono e1) h0 h1) ev_c) (ev_ixR (ev_var rfl) (ev_var rfl) (hr.mono e1) h0 h1))) k
end
theorem d_lessened_row {P : Program} {w : World} {K : Frag} {mg : Str → Option Value} {base : Heap} (T : Txt w K mg) {f : Addr} {cdv : Value} {A : Around} {outer : List Env} {s : Shared} {H : Hp} {E : XK} (hr : Room 0 (A.deeper (envOfC "lessened_row" (defScope s_lessened_row) s.heap.objs.size f cdv))) :
    PSs (cxOf CX0 P w K mg base N_lessened_row "lessened_row" (defScope s_lessened_row) f cdv A outer s H E).nox (defBody s_lessened_row) (t_lessened_row K) := by
  exact (pss_one (ps_ret (pe_lc (own := [("v", 3)]) (g := gName 3) (tt := tYes) (te := (tIf (tTest (tOp rGe (tOp (rIx K) (tVar 1) (tVar 3)) (tVar 2))) (tOp rSub (tOp (rIx K) (tVar 0) (tVar 3)) (tC (.int 1))) (tOp (rIx K) (tVar 0) (tVar 3)))) rfl sc_lessened_row.nd (pi_range1 (by rfl) (T.free (memOf 1 rfl)) (pa_cons (pe_callB call_len_seq (by rfl) (T.free (memOf 0 rfl)) b_len (pa_cons (pv 0) pa_nil)) pa_nil)) (blkOk_by (N := N_lessened_row) (sc := defScope s_lessened_row) (by decide +kernel)) (fun _ _ _ _ _ => pg_name (i := 3) sc_lessened_row.nd rfl (Or.inl rfl)) (fun _ _ _ _ _ => pts_nil) (fun _ _ _ _ _ => (pe_ifExp (pt_cmpR op_ge (pe_ix ix_seq (pv 1) (pv 3) (fun _ _ => rfl)) (pv 2) (nomark _)) (pe_op op_sub (pe_ix ix_seq (pv 0) (pv 3) (fun _ _ => rfl)) pe_int) (pe_ix ix_seq (pv 0) (pv 3) (fun _ _ => rfl)))))))
theorem ok_lessened_row {P : Program} {w : World} {K : Frag} {mg : Str → Option Value} {base : Heap} (T : Txt w K mg) : GF P w K mg base "lessened_row" 1 (sp_lessened_row K) := by
  have F := T.def_ (d := xf_lessened_row) (memOf 46 rfl) rfl
  refine ⟨fnr_mk (k := 0) F sc_lessened_row (fun _ _ _ _ _ _ us hl => match us, hl with | [_, _, _], _ => rfl) (fun vs H Q E h => len_lessened_row h) (fun cdv A outer s H vs Q E hr h => ⟨t_lessened_row K, d_lessened_row T hr, pure_lessened_row T h⟩), ?_, T.glo (memOf 39 rfl)⟩
  obtain ⟨fd, F⟩ := F
  exact F.kp
def sp_need_ranks (K : Frag) : Sp := fun vs H Q _ => ∃ a W A r rk, vs = [.ref a, .ref r] ∧ WebAt K H a W A ∧ SqA K H r (rowV W.n rk) ∧ (∀ v : Int, 0 ≤ v → v < W.n → 0 ≤ rk v) ∧ RetV .non H Q
/-! need_ranks -/
abbrev N_need_ranks : List Str := ["web", "ranks", "rank"]
abbrev s_need_ranks : Stmt := top 61
theorem sc_need_ranks : FnScope N_need_ranks ["web", "ranks"] (defScope s_need_ranks) := ⟨rfl, rfl, rfl, by decide +kernel, rfl, by decide +kernel, by decide +kernel⟩
def t_need_ranks (K : Frag) : TS := (tSeq (tIfS (tTest (tOp rNe (tCB (rLenS K) (tCons (tVar 1) tNil)) (tPW_size K (tVar 0)))) tNever tNext)
    (tFor (iSeq K (tVar 1)) (gName 2) (tDrop (tFn (sp_need_from K) (tCons (tVar 2) (tCons (tC (.int 0)) (tCons (tC (.str "a rank")) tNil)))))))
section
variable {w : World} {K : Frag} {mg : Str → Option Value} {vs : List V} {H : Hp} {Q : VK} {E : XK}
theorem len_need_ranks (h : sp_need_ranks K vs H Q E) : vs.length = 2 := by obtain ⟨a, W, A, r, rk, rfl, _⟩ := h; rfl
theorem pure_need_ranks (T : Txt w K mg) (h : sp_need_ranks K vs H Q E) : t_need_ranks K (E1 Q) (start N_need_ranks vs) H := by
  obtain ⟨a, W, A, r, rk, rfl, hw, hr, hn, k⟩ := h
  refine q_not (et_is (et_test (ev_neI (ev_lenR (ev_var rfl) hr) (ev_Wsize (ev_var rfl) hw))) (by simp)) fun H1 e1 => ?_
  refine s_forB (H0 := H) (ev_var rfl) hr (fun i σ' H' => (∃ v, σ' = [some (.ref a), some (.ref r), v]) ∧ Ex H H') (fun H2 e2 => ⟨⟨_, rfl⟩, e1.trans e2⟩) (fun i σ' H' pc => pc.2) ?_ fun σ' H' pc => k H' pc.2
  rintro i x σ' H' hi ⟨⟨v, rfl⟩, e3⟩
  rw [rowV_ran, List.getElem?_map] at hi
  cases hq : (ran W.n)[i]? with
  | none => rw [hq] at hi; cases hi
  | some n =>
    rw [hq] at hi
    have ex : V.int (rk n) = x := Option.some.inj hi
    subst ex
    obtain ⟨h0, h1⟩ := mem_ran.mp (List.mem_of_getElem? hq)
    exact s_drop (ev_fn (ea_cons (ev_var rfl) (ea_cons ev_c (ea_cons ev_c ea_nil))) (spv_need_from (hn n h0 h1))) fun H3 e4 => ⟨⟨_, rfl⟩, e3.trans e4⟩
end
theorem d_need_ranks {P : Program} {w : World} {K : Frag} {mg : Str → Option Value} {base : Heap} (T : Txt w K mg) {f : Addr} {cdv : Value} {A : Around} {outer : List Env} {s : Shared} {H : Hp} {E : XK} (hr : Room 2 (A.deeper (envOfC "need_ranks" (defScope s_need_ranks) s.heap.objs.size f cdv))) :
    PSs (cxOf CX0 P w K mg base N_need_ranks "need_ranks" (defScope s_need_ranks) f cdv A outer s H E).nox (defBody s_need_ranks) (t_need_ranks K) := by
  exact (pss_cons (ps_if (pt_cmpR op_ne (pe_callB call_len_seq (by rfl) (T.free (memOf 0 rfl)) b_len (pa_cons (pv 1) pa_nil)) (pe_W_size T (pv 0) hr (by decide)) (nomark _)) (pss_one ps_never) pss_nil)
    (pss_one (ps_for PassesOwn.never rfl (pi_seq (pv 1)) (pg_name (i := 2) sc_need_ranks.nd rfl (Or.inl rfl)) (pss_one (ps_expr (pe_f (ok_need_from T) hr (by decide) (by rfl) (pa_cons (pv 2) (pa_cons pe_int (pa_cons pe_str pa_nil)))))))))
theorem ok_need_ranks {P : Program} {w : World} {K : Frag} {mg : Str → Option Value} {base : Heap} (T : Txt w K mg) : GF P w K mg base "need_ranks" 3 (sp_need_ranks K) := by
  have F := T.def_ (d := xf_need_ranks) (memOf 45 rfl) rfl
  refine ⟨fnr_mk (k := 2) F sc_need_ranks (fun _ _ _ _ _ _ us hl => match us, hl with | [_, _], _ => rfl) (fun vs H Q E h => len_need_ranks h) (fun cdv A outer s H vs Q E hr h => ⟨t_need_ranks K, d_need_ranks T hr, pure_need_ranks T h⟩), ?_, T.glo (memOf 38 rfl)⟩
  obtain ⟨fd, F⟩ := F
  exact F.kp
theorem spv_need_ranks {K : Frag} {H : Hp} {a r : Addr} {W : Wb} {A : WA} {rk : Int → Int} (hw : WebAt K H a W A) (hr : SqA K H r (rowV W.n rk)) (h : ∀ v : Int, 0 ≤ v → v < W.n → 0 ≤ rk v) : SpV (sp_need_ranks K) [.ref a, .ref r] H .non := fun H1 e Q q E => ⟨a, W, A, r, rk, rfl, hw.mono e, hr.mono e, h, fun H2 e2 => q H2 e2⟩
def sp_need_row3 (K : Frag) : Sp := fun vs H Q _ => ∃ a W A r f m, vs = [.ref a, .ref r, .int m] ∧ WebAt K H a W A ∧ SqA K H r (rowV W.n f) ∧ (∀ v : Int, 0 ≤ v → v < W.n → 0 ≤ f v ∧ f v ≤ m) ∧ RetV .non H Q
def sp_need_row (K : Frag) : Sp := fun vs H Q E => sp_need_row3 K (vs ++ [.non]) H Q E
/-! need_row -/
abbrev N_need_row : List Str := ["web", "row", "most", "x"]
abbrev s_need_row : Stmt := top 38
theorem sc_need_row : FnScope N_need_row ["web", "row", "most"] (defScope s_need_row) := ⟨rfl, rfl, rfl, by decide +kernel, rfl, by decide +kernel, by decide +kernel⟩
def t_need_row (K : Frag) : TS := (tSeq (tIfS (tTest (tOp rNe (tCB (rLenS K) (tCons (tVar 1) tNil)) (tPW_size K (tVar 0)))) tNever tNext)
    (tIfS (tAnd (tTest (tOp rNotN (tVar 2) (tC .non))) (tNot (tB (tCB (rAll K) (tCons (tLc (iSeq K (tVar 1)) (gName 3) tYes (tChain rLe rLe (tC (.int 0)) (tVar 3) (tVar 2)) [3]) tNil))))) tNever tNext))
section
variable {w : World} {K : Frag} {mg : Str → Option Value} {vs : List V} {H : Hp} {Q : VK} {E : XK}
theorem pure_need_row (T : Txt w K mg) (h : sp_need_row3 K vs H Q E) : t_need_row K (E1 Q) (start N_need_row vs) H := by
  obtain ⟨a, W, A, r, f, m, rfl, hw, hr, hf, k⟩ := h
  have hn := hw.n60
  refine q_not (et_is (et_test (ev_neI (ev_lenR (ev_var rfl) hr) (ev_Wsize (ev_var rfl) hw))) (by simp)) fun H1 e1 => ?_
  have el := el_lc (K := K) (σ := [some (.ref a), some (.ref r), some (.int m), none]) (H := H1) (tl := tVar 1) (t := tYes) (te := tChain rLe rLe (tC (.int 0)) (tVar 3) (tVar 2)) (j := 3) (ws := [3]) (l := ran W.n) (emb := fun v => V.int (f v)) (f := fun _ => true) (g := fun _ => V.bl true)
      (ea_of (ev_var rfl) (by rw [← rowV_ran]; exact hr.mono e1)) (by rw [ran_len]; omega) (fun _ => rfl) (fun _ _ _ _ => et_yes) (fun v H3 e3 hv _ => ev_chain ev_c (ev_var rfl) (ev_var rfl) (hf v (mem_ran.mp hv).1 (mem_ran.mp hv).2).1 (hf v (mem_ran.mp hv).1 (mem_ran.mp hv).2).2)
  rw [filter_yes] at el
  have el2 : EvL (tLc (iSeq K (tVar 1)) (gName 3) tYes (tChain rLe rLe (tC (.int 0)) (tVar 3) (tVar 2)) [3]) [some (.ref a), some (.ref r), some (.int m), none] H1 (((ran W.n).map fun _ => true).map V.bl) := by
    rw [List.map_map]
    exact el
  have key := ev_all (K := K) el2
  have hall : (((ran W.n).map fun _ => true).all id) = true := by rw [List.all_eq_true]; intro x hx; obtain ⟨_, _, rfl⟩ := List.mem_map.mp hx; rfl
  rw [hall] at key
  exact s_not (et_is (b := false) (et_and (et_is (b := true) (et_test (ev_notN (ev_var rfl))) (by simp)) fun _ => et_not (et_B key)) rfl) fun H2 e2 => k H2 (e1.trans e2)
end
theorem d_need_row {P : Program} {w : World} {K : Frag} {mg : Str → Option Value} {base : Heap} (T : Txt w K mg) {f : Addr} {cdv : Value} {A : Around} {outer : List Env} {s : Shared} {H : Hp} {E : XK} (hr : Room 2 (A.deeper (envOfC "need_row" (defScope s_need_row) s.heap.objs.size f cdv))) :
    PSs (cxOf CX0 P w K mg base N_need_row "need_row" (defScope s_need_row) f cdv A outer s H E).nox (defBody s_need_row) (t_need_row K) := by
  exact (pss_cons (ps_if (pt_cmpR op_ne (pe_callB call_len_seq (by rfl) (T.free (memOf 0 rfl)) b_len (pa_cons (pv 1) pa_nil)) (pe_W_size T (pv 0) hr (by decide)) (nomark _)) (pss_one ps_never) pss_nil)
    (pss_one (ps_if (PW.pt (pw_and (pt_cmpR op_notN1 (pv 2) pe_non (nomark _)) (pw_and1 (pt_not (pt_val (pe_callB (cr_all rfl) (by rfl) (T.free (memOf 11 rfl)) b_all (pa_cons (pe_lc (own := [("x", 3)]) (g := gName 3) (tt := tYes) (te := (tChain rLe rLe (tC (.int 0)) (tVar 3) (tVar 2))) rfl sc_need_row.nd (pi_seq (pv 1)) (blkOk_by (N := N_need_row) (sc := defScope s_need_row) (by decide +kernel)) (fun _ _ _ _ _ => pg_name (i := 3) sc_need_row.nd rfl (Or.inl rfl)) (fun _ _ _ _ _ => pts_nil) (fun _ _ _ _ _ => (pe_chain op_le op_le pe_int (pv 3) (pv 2)))) pa_nil))))))) (pss_one ps_never) pss_nil)))
theorem okr_need_row {P : Program} {w : World} {K : Frag} {mg : Str → Option Value} {base : Heap} (T : Txt w K mg) : ∃ fd, FunD K "need_row" "need_row" (defArgs s_need_row) (defBody s_need_row) (defScope s_need_row) [(.non : V)] [] (He.ga K "need_row") fd ∧ FnOk P w K mg base CX0 3 (He.ga K "need_row") fd ["web", "row", "most"] (sp_need_row3 K) := by
  obtain ⟨fd, F⟩ := T.def_ (d := xf_need_row) (memOf 28 rfl) rfl
  refine ⟨fd, F, F.ok sc_need_row (fun vs H Q E h => by obtain ⟨a, W, A, r, f, k, rfl, _⟩ := h; rfl) fun cdv A outer s H vs Q E hr h => ⟨t_need_row K, (d_need_row T hr).nox, pure_need_row T h⟩⟩
theorem ok_need_row3 {P : Program} {w : World} {K : Frag} {mg : Str → Option Value} {base : Heap} (T : Txt w K mg) : GF P w K mg base "need_row" 3 (sp_need_row3 K) := by
  obtain ⟨fd, F, G⟩ := okr_need_row (P := P) (base := base) T
  obtain ⟨ds, hd, hb⟩ := F.binds1 (ps := ["web", "row", "most"]) 3 1 (fun z => nomatch z) rfl (fun T kV doc pm an cdv ct us its hu hi => by
    match us, hu, its, hi with
    | [_, _, _], _, [d0], _ => exact ⟨_, rfl, rfl⟩)
  · refine ⟨((G.raw hb hd).imp fun vs H Q E h => ?_), F.kp, T.glo (memOf 21 rfl)⟩
    show sp_need_row3 K (vs ++ []) H Q E
    rw [List.append_nil]
    exact h
theorem ok_need_row {P : Program} {w : World} {K : Frag} {mg : Str → Option Value} {base : Heap} (T : Txt w K mg) : GF P w K mg base "need_row" 3 (sp_need_row K) := by
  obtain ⟨fd, F, G⟩ := okr_need_row (P := P) (base := base) T
  obtain ⟨ds, hd, hb⟩ := F.binds1 (ps := ["web", "row", "most"]) 2 0 (fun z => nomatch z) rfl (fun T kV doc pm an cdv ct us its hu hi => by
    match us, hu, its, hi with
    | [_, _], _, [d0], _ => exact ⟨_, rfl, rfl⟩)
  · exact ⟨G.raw hb hd, F.kp, T.glo (memOf 21 rfl)⟩
theorem spv_need_row3 {K : Frag} {H : Hp} {a r : Addr} {W : Wb} {A : WA} {f : Int → Int} {m : Int} (hw : WebAt K H a W A) (hr : SqA K H r (rowV W.n f)) (h : ∀ v : Int, 0 ≤ v → v < W.n → 0 ≤ f v ∧ f v ≤ m) : SpV (sp_need_row3 K) [.ref a, .ref r, .int m] H .non := fun H1 e Q q E => ⟨a, W, A, r, f, m, rfl, hw.mono e, hr.mono e, h, fun H2 e2 => q H2 e2⟩
/-- a half's numbers -/
def Nn (W : Wb) (f : Int → Int) : Prop := ∀ v : Int, 0 ≤ v → v < W.n → 0 ≤ f v
def sp_call_half_look (K : Frag) : Sp := fun vs H Q _ => ∃ a W A k c C l r X pp q1 rk q2 ct, vs = [.ref a, .int k, .ref c, .ref r, .ref pp] ∧ WebAt K H a W A ∧ CAt K H c W C l ∧ SqA K H r (rowV W.n X) ∧ SqT K H pp [.ref q1, .ref q2] ∧ SqA K H q1 (rowV W.n rk) ∧ SqA K H q2 (rowV W.n ct) ∧
  0 ≤ k ∧ k ≤ 1000 ∧ (∀ v : Int, 0 ≤ v → v < W.n → 0 ≤ X v ∧ X v ≤ k + 1) ∧ Nn W rk ∧ Nn W ct ∧ ∀ p H' l', Ex H H' → SqT K H' p (intV l') → CAt K H' p W C l' → Q (.ref p) H'
/-! call_half_look -/
abbrev N_call_half_look : List Str := ["web", "k", "calls", "row", "parts", "one_half", "called"]
abbrev s_call_half_look : Stmt := top 64
theorem sc_call_half_look : FnScope N_call_half_look ["web", "k", "calls", "row", "parts"] (defScope s_call_half_look) := ⟨rfl, rfl, rfl, by decide +kernel, rfl, by decide +kernel, by decide +kernel⟩
def t_call_half_look (K : Frag) : TS := (tSeq (tDrop (tFn (sp_call_kinds K) (tCons (tVar 0) (tCons (tVar 1) (tCons (tVar 2) tNil)))))
    (tSeq (tDrop (tFn (sp_need_integers K) (tCons (tVar 3) (tCons (tC (.str "a row")) tNil))))
    (tSeq (tFor (iSeq K (tVar 4)) (gName 5) (tDrop (tFn (sp_need_integers K) (tCons (tVar 5) (tCons (tC (.str "ranks and counts")) tNil)))))
    (tSeq (tAsg (tFn (sp_call_set K) (tCons (tVar 0) (tCons (tVar 1) (tCons (tVar 2) tNil)))) (gName 6))
    (tSeq (tDrop (tFn (sp_need_row3 K) (tCons (tVar 0) (tCons (tVar 3) (tCons (tOp rAdd (tVar 1) (tC (.int 1))) tNil)))))
    (tSeq (tFor (iSeq K (tVar 4)) (gName 5) (tDrop (tFn (sp_need_ranks K) (tCons (tVar 0) (tCons (tVar 5) tNil)))))
    (tSeq (tDrop (tFn (sp_call_bounds4 K) (tCons (tVar 0) (tCons (tVar 1) (tCons (tVar 6) (tCons (tC (.int 10000000000000000000000000000000000000000)) tNil))))))
    (tRet (tVar 6)))))))))
section
variable {w : World} {K : Frag} {mg : Str → Option Value} {vs : List V} {H : Hp} {Q : VK} {E : XK}
theorem len_call_half_look (h : sp_call_half_look K vs H Q E) : vs.length = 5 := by obtain ⟨a, W, A, k, c, C, l, r, X, pp, q1, rk, q2, ct, rfl, _⟩ := h; rfl
theorem pure_call_half_look (T : Txt w K mg) (h : sp_call_half_look K vs H Q E) : t_call_half_look K (E1 Q) (start N_call_half_look vs) H := by
  obtain ⟨a, W, A, k, c, C, l, r, X, pp, q1, rk, q2, ct, rfl, hw, hc, hr, hp, h1, h2, hk, hk2, hX, hrk, hct, q⟩ := h
  have asI : ∀ {H1 : Hp} {p : Addr} {f : Int → Int}, SqA K H1 p (rowV W.n f) → SqA K H1 p (intV ((ran W.n).map f)) := fun h => by rw [← rowV_int]; exact h
  refine q_drop (ev_fn (ea_cons (ev_var rfl) (ea_cons (ev_var rfl) (ea_cons (ev_var rfl) ea_nil))) (spv_call_kinds hw hc.sq)) fun H1 e1 => ?_
  refine q_drop (ev_fn (ea_cons (ev_var rfl) (ea_cons ev_c ea_nil)) (spv_need_integers (asI (hr.mono e1)) (by decide))) fun H2 e2 => ?_
  refine q_forB (H0 := H) (xs := [.ref q1, .ref q2]) (ev_var rfl) (.t hp) (fun i σ' H' => (∃ v, σ' = [some (.ref a), some (.int k), some (.ref c), some (.ref r), some (.ref pp), v, none]) ∧ Ex H H') (fun H3 e3 => ⟨⟨_, rfl⟩, (e1.trans e2).trans e3⟩) (fun i σ' H' pc => pc.2) ?_ ?_
  · rintro i x σ' H' hi ⟨⟨v, rfl⟩, e3⟩
    match i, hi with
    | 0, hi =>
      cases hi
      exact s_drop (ev_fn (ea_cons (ev_var rfl) (ea_cons ev_c ea_nil)) (spv_need_integers (asI (h1.mono e3)) (by decide))) fun H3 e4 => ⟨⟨_, rfl⟩, e3.trans e4⟩
    | 1, hi =>
      cases hi
      exact s_drop (ev_fn (ea_cons (ev_var rfl) (ea_cons ev_c ea_nil)) (spv_need_integers (asI (h2.mono e3)) (by decide))) fun H3 e4 => ⟨⟨_, rfl⟩, e3.trans e4⟩
  · rintro σ' H3 ⟨⟨v, rfl⟩, e3⟩
    refine q_asgX (evx_fn (ea_cons (ev_var rfl) (ea_cons (ev_var rfl) (ea_cons (ev_var rfl) ea_nil))) (spx_call_set (hw.mono e3) hk (hc.mono e3))) fun y H4 e4 ⟨pc, l', ey, hpc, hcc⟩ => ?_
    subst ey
    have e34 := e3.trans e4
    refine q_drop (ev_fn (ea_cons (ev_var rfl) (ea_cons (ev_var rfl) (ea_cons (ev_I (ev_var rfl) ev_c) ea_nil))) (spv_need_row3 (hw.mono e34) (hr.mono e34) hX)) fun H5 e5 => ?_
    refine q_forB (H0 := H) (xs := [.ref q1, .ref q2]) (ev_var rfl) (.t hp) (fun i σ' H' => (∃ v, σ' = [some (.ref a), some (.int k), some (.ref c), some (.ref r), some (.ref pp), v, some (.ref pc)]) ∧ Ex H H' ∧ Ex H4 H') (fun H6 e6 => ⟨⟨_, rfl⟩, e34.trans (e5.trans e6), e5.trans e6⟩) (fun i σ' H' pc => pc.2.1) ?_ ?_
    · rintro i x σ' H' hi ⟨⟨v, rfl⟩, e3, e3'⟩
      match i, hi with
      | 0, hi =>
        cases hi
        exact s_drop (ev_fn (ea_cons (ev_var rfl) (ea_cons (ev_var rfl) ea_nil)) (spv_need_ranks (hw.mono e3) (h1.mono e3) hrk)) fun H3 e4 => ⟨⟨_, rfl⟩, e3.trans e4, e3'.trans e4⟩
      | 1, hi =>
        cases hi
        exact s_drop (ev_fn (ea_cons (ev_var rfl) (ea_cons (ev_var rfl) ea_nil)) (spv_need_ranks (hw.mono e3) (h2.mono e3) hct)) fun H3 e4 => ⟨⟨_, rfl⟩, e3.trans e4, e3'.trans e4⟩
    · rintro σ' H6 ⟨⟨v, rfl⟩, e6, e6'⟩
      refine q_drop (ev_fn (ea_cons (ev_var rfl) (ea_cons (ev_var rfl) (ea_cons (ev_var rfl) (ea_cons ev_c ea_nil)))) (spv_call_bounds4 (hw.mono e6) (hcc.mono e6') (by omega))) fun H7 e7 => ?_
      exact s_ret (ev_var rfl) fun H8 e8 => q pc H8 l' (e6.trans (e7.trans e8)) (ex_t (e6'.trans (e7.trans e8)) hpc) (hcc.mono (e6'.trans (e7.trans e8)))
end
theorem d_call_half_look {P : Program} {w : World} {K : Frag} {mg : Str → Option Value} {base : Heap} (T : Txt w K mg) {f : Addr} {cdv : Value} {A : Around} {outer : List Env} {s : Shared} {H : Hp} {E : XK} (hr : Room 5 (A.deeper (envOfC "call_half_look" (defScope s_call_half_look) s.heap.objs.size f cdv))) :
    PSs (cxOf CX0 P w K mg base N_call_half_look "call_half_look" (defScope s_call_half_look) f cdv A outer s H E).nox (defBody s_call_half_look) (t_call_half_look K) := by
  obtain ⟨_, hFAR_CHIPS⟩ := T.ints (memOf 2 rfl : (("FAR_CHIPS" : Str), (10000000000000000000000000000000000000000 : Int)) ∈ intsG)
  exact (pss_cons (ps_expr (pe_f (ok_call_kinds T) hr (by decide) (by rfl) (pa_cons (pv 0) (pa_cons (pv 1) (pa_cons (pv 2) pa_nil)))))
    (pss_cons (ps_expr (pe_f (ok_need_integers T) hr (by decide) (by rfl) (pa_cons (pv 3) (pa_cons pe_str pa_nil))))
    (pss_cons (ps_for PassesOwn.never rfl (pi_seq (pv 4)) (pg_name (i := 5) sc_call_half_look.nd rfl (Or.inl rfl)) (pss_one (ps_expr (pe_f (ok_need_integers T) hr (by decide) (by rfl) (pa_cons (pv 5) (pa_cons pe_str pa_nil))))))
    (pss_cons (ps_set (i := 6) sc_call_half_look.nd rfl (Or.inl rfl) (pe_f (ok_call_set T) hr (by decide) (by rfl) (pa_cons (pv 0) (pa_cons (pv 1) (pa_cons (pv 2) pa_nil)))))
    (pss_cons (ps_expr (pe_f (ok_need_row3 T) hr (by decide) (by rfl) (pa_cons (pv 0) (pa_cons (pv 3) (pa_cons (pe_op op_add (pv 1) pe_int) pa_nil)))))
    (pss_cons (ps_for PassesOwn.never rfl (pi_seq (pv 4)) (pg_name (i := 5) sc_call_half_look.nd rfl (Or.inl rfl)) (pss_one (ps_expr (pe_f (ok_need_ranks T) hr (by decide) (by rfl) (pa_cons (pv 0) (pa_cons (pv 5) pa_nil))))))
    (pss_cons (ps_expr (pe_f (ok_call_bounds4 T) hr (by decide) (by rfl) (pa_cons (pv 0) (pa_cons (pv 1) (pa_cons (pv 6) (pa_cons (pe_glob (v := .int 10000000000000000000000000000000000000000) (by rfl) hFAR_CHIPS ⟨_, rfl⟩) pa_nil))))))
    (pss_one (ps_ret (pv 6))))))))))
theorem ok_call_half_look {P : Program} {w : World} {K : Frag} {mg : Str → Option Value} {base : Heap} (T : Txt w K mg) : GF P w K mg base "call_half_look" 6 (sp_call_half_look K) := by
  have F := T.def_ (d := xf_call_half_look) (memOf 47 rfl) rfl
  refine ⟨fnr_mk (k := 5) F sc_call_half_look (fun _ _ _ _ _ _ us hl => match us, hl with | [_, _, _, _, _], _ => rfl) (fun vs H Q E h => len_call_half_look h) (fun cdv A outer s H vs Q E hr h => ⟨t_call_half_look K, d_call_half_look T hr, pure_call_half_look T h⟩), ?_, T.glo (memOf 40 rfl)⟩
  obtain ⟨fd, F⟩ := F
  exact F.kp
/-! ### a paper as it stands -/
structure PA' where
  dx : Addr
  ws : List (Option V)
  a : Addr
  c : Addr
  r : Addr
  q1 : Addr
  q2 : Addr
  l : List Int
  A : WA
structure PapAt (K : Frag) (H : Hp) (p : Addr) (W : Wb) (C : Int → Bool) (k : Int) (X rk ct : Int → Int) (B : PA') : Prop where
  web : WebAt K H B.a W B.A
  sl : Slt H p (gP K) B.dx B.ws
  qw : B.ws[sI K (gP K) "_web"]? = some (some (.ref B.a))
  qk : B.ws[sI K (gP K) "_chips"]? = some (some (.int k))
  qc : B.ws[sI K (gP K) "_calls"]? = some (some (.ref B.c))
  qr : B.ws[sI K (gP K) "_row"]? = some (some (.ref B.r))
  q1 : B.ws[sI K (gP K) "_ranks"]? = some (some (.ref B.q1))
  q2 : B.ws[sI K (gP K) "_counts"]? = some (some (.ref B.q2))
  hc : CAt K H B.c W C B.l
  hcT : SqT K H B.c (intV B.l)
  hr : SqT K H B.r (rowV W.n X)
  h1 : SqT K H B.q1 (rowV W.n rk)
  h2 : SqT K H B.q2 (rowV W.n ct)
  k0 : 0 ≤ k
  k1 : k ≤ 1000
  hX : ∀ v : Int, 0 ≤ v → v < W.n → 0 ≤ X v ∧ X v ≤ k + 1
  nr : Nn W rk
  nc : Nn W ct
theorem PapAt.mono {K : Frag} {H H' : Hp} {p : Addr} {W : Wb} {C : Int → Bool} {k : Int} {X rk ct : Int → Int} {B : PA'} (e : Ex H H') (h : PapAt K H p W C k X rk ct B) : PapAt K H' p W C k X rk ct B :=
  ⟨h.web.mono e, slt_mono e h.sl, h.qw, h.qk, h.qc, h.qr, h.q1, h.q2, h.hc.mono e, ex_t e h.hcT, ex_t e h.hr, ex_t e h.h1, ex_t e h.h2, h.k0, h.k1, h.hX, h.nr, h.nc⟩
section
variable {K : Frag} {σ : L2.St} {H : Hp} {ta tb : TE} {p : Addr} {W : Wb} {C : Int → Bool} {k : Int} {X rk ct : Int → Int} {B : PA'} (ha : Ev ta σ H (.ref p)) (h : PapAt K H p W C k X rk ct B)
include ha h
theorem ev_Pweb : Ev (tPP_web K ta) σ H (.ref B.a) := ev_prop ha h.sl h.qw
theorem ev_Pchips : Ev (tPP_chips K ta) σ H (.int k) := ev_prop ha h.sl h.qk
theorem ev_Pcalls : Ev (tPP_calls K ta) σ H (.ref B.c) := ev_prop ha h.sl h.qc
theorem ev_Prow : Ev (tPP_row K ta) σ H (.ref B.r) := ev_prop ha h.sl h.qr
theorem ev_Pranks : Ev (tPP_ranks K ta) σ H (.ref B.q1) := ev_prop ha h.sl h.q1
theorem ev_Pcounts : Ev (tPP_counts K ta) σ H (.ref B.q2) := ev_prop ha h.sl h.q2
end
def sp_need_call_paper (K : Frag) : Sp := fun vs H Q _ => ∃ p W C k X rk ct B, vs = [.ref p] ∧ PapAt K H p W C k X rk ct B ∧ RetV .non H Q
/-! need_call_paper -/
abbrev N_need_call_paper : List Str := ["paper"]
abbrev s_need_call_paper : Stmt := top 66
theorem sc_need_call_paper : FnScope N_need_call_paper ["paper"] (defScope s_need_call_paper) := ⟨rfl, rfl, rfl, by decide +kernel, rfl, by decide +kernel, by decide +kernel⟩
def t_need_call_paper (K : Frag) : TS := (tIfS (tNot (tB (tCB (SlX.rIsiSl K (.ref (gP K))) (tCons (tVar 0) (tCons (tC (.ref (gP K))) tNil))))) tNever tNext)
section
variable {w : World} {K : Frag} {mg : Str → Option Value} {vs : List V} {H : Hp} {Q : VK} {E : XK}
theorem len_need_call_paper (h : sp_need_call_paper K vs H Q E) : vs.length = 1 := by obtain ⟨p, W, C, k, X, rk, ct, B, rfl, _⟩ := h; rfl
theorem pure_need_call_paper (T : Txt w K mg) (h : sp_need_call_paper K vs H Q E) : t_need_call_paper K (E1 Q) (start N_need_call_paper vs) H := by
  obtain ⟨p, W, C, k, X, rk, ct, B, rfl, hp, q⟩ := h
  refine s_not (et_is (b := false) (et_not (a := true) (et_B fun H1 e1 Q1 q1 => ?_)) rfl) fun H1 e => q H1 e
  exact ⟨_, rfl, p, gP K, B.dx, B.ws, .ref (gP K), true, rfl, rfl, fun u h => h, slt_mono e1 hp.sl, T.sclP, T.isiP.1, T.isiP.2, q1 H1 (Ex.refl _)⟩
end
theorem d_need_call_paper {P : Program} {w : World} {K : Frag} {mg : Str → Option Value} {base : Heap} (T : Txt w K mg) {f : Addr} {cdv : Value} {A : Around} {outer : List Env} {s : Shared} {H : Hp} {E : XK} (hr : Room 0 (A.deeper (envOfC "need_call_paper" (defScope s_need_call_paper) s.heap.objs.size f cdv))) :
    PSs (cxOf CX0 P w K mg base N_need_call_paper "need_call_paper" (defScope s_need_call_paper) f cdv A outer s H E).nox (defBody s_need_call_paper) (t_need_call_paper K) := by
  exact (pss_one (ps_if (pt_not (pt_val (pe_callB (call_isiSl _) (by rfl) (T.free (memOf 5 rfl)) b_isinstance (pa_cons (pv 0) (pa_cons (pe_glob (v := .ref (gP K)) (by rfl) (T.glo (memOf 75 rfl)) rfl) pa_nil))))) (pss_one ps_never) pss_nil))
theorem ok_need_call_paper {P : Program} {w : World} {K : Frag} {mg : Str → Option Value} {base : Heap} (T : Txt w K mg) : GF P w K mg base "need_call_paper" 1 (sp_need_call_paper K) := by
  have F := T.def_ (d := xf_need_call_paper) (memOf 56 rfl) rfl
  refine ⟨fnr_mk (k := 0) F sc_need_call_paper (fun _ _ _ _ _ _ us hl => match us, hl with | [_], _ => rfl) (fun vs H Q E h => len_need_call_paper h) (fun cdv A outer s H vs Q E hr h => ⟨t_need_call_paper K, d_need_call_paper T hr, pure_need_call_paper T h⟩), ?_, T.glo (memOf 41 rfl)⟩
  obtain ⟨fd, F⟩ := F
  exact F.kp
theorem spv_need_call_paper {K : Frag} {H : Hp} {p : Addr} {W : Wb} {C : Int → Bool} {k : Int} {X rk ct : Int → Int} {B : PA'} (h : PapAt K H p W C k X rk ct B) : SpV (sp_need_call_paper K) [.ref p] H .non := fun H1 e Q q E => ⟨p, W, C, k, X, rk, ct, B, rfl, h.mono e, fun H2 e2 => q H2 e2⟩
def sp_CallPaper___init__ (K : Frag) : Sp := fun vs H Q _ => ∃ H0 x dx a W A k c C l r X q1 rk q2 ct, vs = [.ref x, .ref a, .int k, .ref c, .ref r, .ref q1, .ref q2] ∧ Fill H0 H x (gP K) dx [] ∧ WebAt K H0 a W A ∧ CAt K H0 c W C l ∧ SqA K H0 r (rowV W.n X) ∧ SqA K H0 q1 (rowV W.n rk) ∧ SqA K H0 q2 (rowV W.n ct) ∧
  0 ≤ k ∧ k ≤ 1000 ∧ (∀ v : Int, 0 ≤ v → v < W.n → 0 ≤ X v ∧ X v ≤ k + 1) ∧ Nn W rk ∧ Nn W ct ∧ ∀ H' B, Ex H0 H' → B.a = a → PapAt K H' x W C k X rk ct B → Q .non H'
/-! CallPaper.__init__ -/
abbrev N_CallPaper___init__ : List Str := ["self", "web", "k", "calls", "row", "ranks", "counts"]
abbrev s_CallPaper___init__ : Stmt := inClass (top 65) 1
theorem sc_CallPaper___init__ : FnScope N_CallPaper___init__ ["self", "web", "k", "calls", "row", "ranks", "counts"] (defScope s_CallPaper___init__) := ⟨rfl, rfl, rfl, by decide +kernel, rfl, by decide +kernel, by decide +kernel⟩
def t_CallPaper___init__ (K : Frag) : TS := (tSeq (sSl K (tVar 0) (tFn (sp_call_half_look K) (tCons (tVar 1) (tCons (tVar 2) (tCons (tVar 3) (tCons (tVar 4) (tCons (tTup (tCons (tVar 5) (tCons (tVar 6) tNil))) tNil)))))) "_calls")
    (tSeq (sSl K (tVar 0) (tVar 1) "_web")
    (tSeq (sSl K (tVar 0) (tVar 2) "_chips")
    (tSeq (sSl K (tVar 0) (tCB (rTupS K) (tCons (tVar 4) tNil)) "_row")
    (tSeq (sSl K (tVar 0) (tCB (rTupS K) (tCons (tVar 5) tNil)) "_ranks")
    (sSl K (tVar 0) (tCB (rTupS K) (tCons (tVar 6) tNil)) "_counts"))))))
section
variable {w : World} {K : Frag} {mg : Str → Option Value} {vs : List V} {H : Hp} {Q : VK} {E : XK}
theorem len_CallPaper___init__ (h : sp_CallPaper___init__ K vs H Q E) : vs.length = 7 := by obtain ⟨H0, x, dx, a, W, A, k, c, C, l, r, X, q1, rk, q2, ct, rfl, _⟩ := h; rfl
theorem pure_CallPaper___init__ (T : Txt w K mg) (h : sp_CallPaper___init__ K vs H Q E) : t_CallPaper___init__ K (E1 Q) (start N_CallPaper___init__ vs) H := by
  obtain ⟨H0, x, dx, a, W, A, k, c, C, l, r, X, q1, rk, q2, ct, rfl, F, hw, hc, hr, h1, h2, hk, hk2, hX, hrk, hct, q⟩ := h
  have nd := T.ndP
  simp only [slP, List.map_cons, List.map_nil, List.nodup_cons, List.mem_cons, List.not_mem_nil, or_false, not_or] at nd
  obtain ⟨⟨nwk, nwc, nwr, nw1, nw2⟩, ⟨nkc, nkr, nk1, nk2⟩, ⟨ncr, nc1, nc2⟩, ⟨nr1, nr2⟩, n12, _⟩ := nd
  have e0 := F.ex
  refine q_sl F (P := fun y H1 => ∃ p l', y = .ref p ∧ SqT K H1 p (intV l') ∧ CAt K H1 p W C l') (evx_fnX (PA := fun vs H1 => ∃ pp, vs = [.ref a, .int k, .ref c, .ref r, .ref pp] ∧ SqT K H1 pp [.ref q1, .ref q2]) ?_ fun vs H1 e1 ⟨pp, ev, hpp⟩ => ?_) (ev_var rfl) T.sclP (T.sP (memOf 2 rfl)) fun y H1 H2 e1 ⟨pc, lc, ey, hpc, hcc⟩ F2 g2 => ?_
  · have hu : EvU (tTup (tCons (tVar 5) (tCons (tVar 6) tNil))) (start N_CallPaper___init__ [.ref x, .ref a, .int k, .ref c, .ref r, .ref q1, .ref q2]) H [.ref q1, .ref q2] := eu_tup (ea_cons (ev_var rfl) (ea_cons (ev_var rfl) ea_nil)) (by show 2 ≤ 100000; decide)
    exact fun H1 e1 Q q => ev_var rfl H1 e1 _ fun H2 e2 => ev_var rfl H2 (e1.trans e2) _ fun H3 e3 => ev_var rfl H3 ((e1.trans e2).trans e3) _ fun H4 e4 => ev_var rfl H4 (((e1.trans e2).trans e3).trans e4) _ fun H5 e5 =>
      hu H5 ((((e1.trans e2).trans e3).trans e4).trans e5) _ fun t H6 nt e6 ht => q _ H6 ((((e2.trans e3).trans e4).trans e5).trans e6) ⟨t, rfl, st_of ht⟩
  · subst ev
    exact fun H2 e2 Q q E => ⟨a, W, A, k, c, C, l, r, X, pp, q1, rk, q2, ct, rfl, hw.mono (e0.trans (e1.trans e2)), hc.mono (e0.trans (e1.trans e2)), hr.mono (e0.trans (e1.trans e2)), ex_t e2 hpp, h1.mono (e0.trans (e1.trans e2)), h2.mono (e0.trans (e1.trans e2)), hk, hk2, hX, hrk, hct, fun p H' l' e3 hp hl => q _ H' e3 ⟨p, l', rfl, hp, hl⟩⟩
  subst ey
  have hpc2 := g2 _ _ hpc
  refine q_sl F2 (Ev.toX (ev_var rfl)) (ev_var rfl) T.sclP (T.sP (memOf 0 rfl)) fun y H3 H4 e3 ey F4 g4 => ?_
  subst ey
  have hpc4 := g4 _ _ (ex_t e3 hpc2)
  refine q_sl F4 (Ev.toX (ev_var rfl)) (ev_var rfl) T.sclP (T.sP (memOf 1 rfl)) fun y H5 H6 e5 ey F6 g6 => ?_
  subst ey
  have hpc6 := g6 _ _ (ex_t e5 hpc4)
  refine q_sl F6 (evx_tupA (ev_var rfl) (hr.mono F6.ex)) (ev_var rfl) T.sclP (T.sP (memOf 3 rfl)) fun y H7 H8 e7 ⟨pr, ey, hpr⟩ F8 g8 => ?_
  subst ey
  have hpc8 := g8 _ _ (ex_t e7 hpc6)
  have hpr8 := g8 _ _ hpr
  refine q_sl F8 (evx_tupA (ev_var rfl) (h1.mono F8.ex)) (ev_var rfl) T.sclP (T.sP (memOf 4 rfl)) fun y H9 H10 e9 ⟨p1, ey, hp1⟩ F10 g10 => ?_
  subst ey
  have hpc10 := g10 _ _ (ex_t e9 hpc8)
  have hpr10 := g10 _ _ (ex_t e9 hpr8)
  have hp110 := g10 _ _ hp1
  refine s_sl F10 (evx_tupA (ev_var rfl) (h2.mono F10.ex)) (ev_var rfl) T.sclP (T.sP (memOf 5 rfl)) fun y H11 H12 e11 ⟨p2, ey, hp2⟩ F12 g12 => ?_
  subst ey
  generalize hws : putS (sI K (gP K) "_counts") (V.ref p2) _ = ws at F12
  refine q H12 ⟨dx, ws, a, pc, pr, p1, p2, lc, A⟩ F12.ex rfl ⟨hw.mono F12.ex, F12.sl, ?_, ?_, ?_, ?_, ?_, ?_, ⟨.t (g12 _ _ (ex_t e11 hpc10)), hcc.mem, hcc.len, hcc.ok⟩, g12 _ _ (ex_t e11 hpc10), g12 _ _ (ex_t e11 hpr10), g12 _ _ (ex_t e11 hp110), g12 _ _ hp2, hk, hk2, hX, hrk, hct⟩
  · show ws[_]? = _
    rw [← hws, putS_ne nw2, putS_ne nw1, putS_ne nwr, putS_ne nwk]
    exact putS_get _ _ _
  · show ws[_]? = _
    rw [← hws, putS_ne nk2, putS_ne nk1, putS_ne nkr]
    exact putS_get _ _ _
  · show ws[_]? = _
    rw [← hws, putS_ne nc2, putS_ne nc1, putS_ne ncr, putS_ne (Ne.symm nkc), putS_ne (Ne.symm nwc)]
    exact putS_get _ _ _
  · show ws[_]? = _
    rw [← hws, putS_ne nr2, putS_ne nr1]
    exact putS_get _ _ _
  · show ws[_]? = _
    rw [← hws, putS_ne n12]
    exact putS_get _ _ _
  · show ws[_]? = _
    rw [← hws]
    exact putS_get _ _ _
end
theorem d_CallPaper___init__ {P : Program} {w : World} {K : Frag} {mg : Str → Option Value} {base : Heap} (T : Txt w K mg) {f : Addr} {cdv : Value} {A : Around} {outer : List Env} {s : Shared} {H : Hp} {E : XK} (hr : Room 6 (A.deeper (envOfC "CallPaper.__init__" (defScope s_CallPaper___init__) s.heap.objs.size f cdv))) :
    PSs (cxOf CX0 P w K mg base N_CallPaper___init__ "CallPaper.__init__" (defScope s_CallPaper___init__) f cdv A outer s H E).nox (defBody s_CallPaper___init__) (t_CallPaper___init__ K) := by
  exact (pss_cons (SlPs (pv 0) (pe_f (ok_call_half_look T) hr (by decide) (by rfl) (pa_cons (pv 1) (pa_cons (pv 2) (pa_cons (pv 3) (pa_cons (pv 4) (pa_cons (pe_tup (pa_cons (pv 5) (pa_cons (pv 6) pa_nil))) pa_nil)))))))
    (pss_cons (SlPs (pv 0) (pv 1))
    (pss_cons (SlPs (pv 0) (pv 2))
    (pss_cons (SlPs (pv 0) (pe_callTy call_tuple_of (by rfl) (T.free (memOf 6 rfl)) b_tuple (pa_cons (pv 4) pa_nil)))
    (pss_cons (SlPs (pv 0) (pe_callTy call_tuple_of (by rfl) (T.free (memOf 6 rfl)) b_tuple (pa_cons (pv 5) pa_nil)))
    (pss_one (SlPs (pv 0) (pe_callTy call_tuple_of (by rfl) (T.free (memOf 6 rfl)) b_tuple (pa_cons (pv 6) pa_nil)))))))))
theorem ok_CallPaper___init__ {P : Program} {w : World} {K : Frag} {mg : Str → Option Value} {base : Heap} (T : Txt w K mg) : FnR P w K mg base CX0 7 (He.ma K (gP K) "__init__") (sp_CallPaper___init__ K) := by
  have F := T.def_ (d := xm_CallPaper___init__) (memOf 48 rfl) rfl
  exact fnr_mk (k := 6) F sc_CallPaper___init__ (fun _ _ _ _ _ _ us hl => match us, hl with | [_, _, _, _, _, _, _], _ => rfl) (fun vs H Q E h => len_CallPaper___init__ h) (fun cdv A outer s H vs Q E hr h => ⟨t_CallPaper___init__ K, d_CallPaper___init__ T hr, pure_CallPaper___init__ T h⟩)
end Pw
end

section
set_option maxRecDepth 100000
set_option maxHeartbeats 4000000
/-! Papers made; plans made. -/
namespace Pw
open PySem PySem.Spec L2 Evl StX PwS SlX
open PyProof.Rows hiding St
theorem Txt.cread {w : World} {K : Frag} {mg : Str → Option Value} (T : Txt w K mg) : ClX.CRead K (gP K) (.type "type") := by
  obtain ⟨c1, c⟩ := He.ba (T.says.fact 27)
  obtain ⟨c2, c⟩ := He.ba c
  exact ⟨c1, He.eqO_ok c2⟩
theorem Txt.cmet {w : World} {K : Frag} {mg : Str → Option Value} (T : Txt w K mg) : ClX.CMet K (gP K) (.type "type") "of" (cmA K (gP K) "of") (cmG K (gP K) "of") := by
  obtain ⟨c1, c⟩ := He.ba (T.says.fact 27)
  obtain ⟨c2, c⟩ := He.ba c
  obtain ⟨c3, c⟩ := He.ba c
  obtain ⟨c4, c5⟩ := He.ba c
  refine ⟨?_, ?_, c5⟩
  · split at c3
    · rename_i e
      obtain ⟨d1, d⟩ := He.ba c3
      obtain ⟨d2, d⟩ := He.ba d
      obtain ⟨d3, d4⟩ := He.ba d
      rw [e, of_decide_eq_true d1, of_decide_eq_true d2, of_decide_eq_true d3, of_decide_eq_true d4]
    · cases c3
  · split at c4
    · rename_i g rest e
      have := of_decide_eq_true c4
      subst this
      exact ⟨_, e⟩
    · cases c4
section
variable {K : Frag} {σ : L2.St} {H H0 : Hp} {ta tb tc tv : TE} {D : Ends} {tz : TS} {x dx C p : Addr} {xs : List V} {P P' : V → Hp → Prop} {sp : Sp} {ar : TA} {fs : List (Str × V)} {v : V}
theorem evx_ix {i : Int} (ha : EvX ta σ H P) (h : ∀ y H1, Ex H H1 → P y H1 → ∃ p xs v, y = .ref p ∧ SqA K H1 p xs ∧ atI xs i = some v ∧ P' v H1) : EvX (tOp (rIx K) ta (tC (.int i))) σ H P' := fun H1 e Q q =>
  ha H1 e _ fun y H2 e2 hp => by
    obtain ⟨p, xs, v, ey, hs, hv, hP⟩ := h y H2 (e.trans e2) hp
    subst ey
    exact hs.elim (fun z => .inl ⟨p, xs, i, v, rfl, rfl, z, hv, q v H2 e2 hP⟩) fun z => .inr (.inl ⟨p, xs, i, v, rfl, rfl, z, hv, q v H2 e2 hP⟩)
theorem evx_mk {PA : List V → Hp → Prop} (h : EvAX ar σ H PA) (hs : ∀ vs H1 x dx, Ex H H1 → PA vs H1 → H1 x = none → H1 dx = none → dx ≠ x → ∀ Q : VK, (∀ H2, Ex H1 H2 → P (.ref x) H2 → Q .non H2) → sp (.ref x :: vs) (upd (upd H1 dx (.own x)) x (.ins C dx [])) Q E0) :
    EvX (tMakeR C sp E0 ar) σ H P := fun H1 e Q q => h H1 e _ fun vs H2 e2 hp x dx h1 h2 h3 => hs vs H2 x dx (e.trans e2) hp h1 h2 h3 _ fun H3 e3 hP => ⟨rfl, q _ H3 (e2.trans e3) hP⟩
theorem ev_fld {f : Str} (ha : Ev ta σ H (.ref p)) (h : H p = some (.ins C dx fs)) (c : Cls K C) (n : NoAttr K C f) (l : fs.lookup f = some v) : Ev (tFld K ta f) σ H v := fun H1 e Q q => ha H1 e _ fun H2 e2 => ⟨p, C, dx, fs, v, rfl, (e.trans e2) _ _ h, c, n, l, q H2 e2⟩
theorem s_fld {f : Str} (h : Ev tv σ H v) (ho : Ev ta σ H (.ref x)) (hx : H x = some (.ins C dx fs)) (c : Cls K C) (n : NoAttr K C f) (hl : fs.length < 1000) (k : ∀ H1, Ex H H1 → D.nx σ (upd H1 x (.ins C dx (putF f v fs)))) : sFld K ta tv f D σ H :=
  h H (Ex.refl _) _ fun H1 e => ho H1 e _ fun H2 e2 => ⟨x, C, dx, fs, rfl, (e.trans e2) _ _ hx, c, n, hl, k H2 (e.trans e2)⟩
theorem q_fld {f : Str} (h : Ev tv σ H v) (ho : Ev ta σ H (.ref x)) (hx : H x = some (.ins C dx fs)) (c : Cls K C) (n : NoAttr K C f) (hl : fs.length < 1000) (k : ∀ H1, Ex H H1 → tz D σ (upd H1 x (.ins C dx (putF f v fs)))) : tSeq (sFld K ta tv f) tz D σ H := s_fld (D := { D with nx := tz D }) h ho hx c n hl k
end
def sp_CallPaper_of (K : Frag) : Sp := fun vs H Q _ => ∃ a W A k c C l, vs = [.ref (gP K), .ref a, .int k, .ref c] ∧ WebAt K H a W A ∧ CAt K H c W C l ∧ 0 ≤ k ∧ k ≤ 60 ∧
  ∀ p H' B, Ex H H' → IsEver W C (k + 1) (eX W C k) → B.a = a → PapAt K H' p W C k (eX W C k) (eR W C k) (eC W C k) B → Q (.ref p) H'
/-! CallPaper.of -/
abbrev N_CallPaper_of : List Str := ["cls", "web", "k", "calls", "called", "row", "ranks"]
abbrev s_CallPaper_of : Stmt := inClass (top 65) 2
theorem sc_CallPaper_of : FnScope N_CallPaper_of ["cls", "web", "k", "calls"] (defScope s_CallPaper_of) := ⟨rfl, rfl, rfl, by decide +kernel, rfl, by decide +kernel, by decide +kernel⟩
def t_CallPaper_of (K : Frag) : TS := (tSeq (tDrop (tFn (sp_call_kinds K) (tCons (tVar 1) (tCons (tVar 2) (tCons (tVar 3) tNil)))))
    (tSeq (tAsg (tFn (sp_call_set K) (tCons (tVar 1) (tCons (tVar 2) (tCons (tVar 3) tNil)))) (gName 4))
    (tSeq (tDrop (tFn (sp_call_bounds K) (tCons (tVar 1) (tCons (tVar 2) (tCons (tVar 4) tNil)))))
    (tSeq (tAsg (tFn (sp_forever_by_rises K) (tCons (tVar 1) (tCons (tVar 2) (tCons (tVar 4) tNil)))) (gName 5))
    (tSeq (tAsg (tOp (rIx K) (tFn (sp_call_fall_out K) (tCons (tVar 1) (tCons (tVar 2) (tCons (tVar 4) (tCons (tVar 5) tNil))))) (tC (.int 0))) (gName 6))
    (tRet (tMakeC 0 (gP K) (sp_CallPaper___init__ K) (tCons (tVar 1) (tCons (tVar 2) (tCons (tVar 4) (tCons (tVar 5) (tCons (tVar 6) (tCons (tOp (rIx K) (tFn (sp_call_count_out K) (tCons (tVar 1) (tCons (tVar 2) (tCons (tVar 4) (tCons (tVar 5) tNil))))) (tC (.int 0))) tNil)))))))))))))
section
variable {w : World} {K : Frag} {mg : Str → Option Value} {vs : List V} {H : Hp} {Q : VK} {E : XK}
theorem len_CallPaper_of (h : sp_CallPaper_of K vs H Q E) : vs.length = 4 := by obtain ⟨a, W, A, k, c, C, l, rfl, _⟩ := h; rfl
theorem pure_CallPaper_of (T : Txt w K mg) (h : sp_CallPaper_of K vs H Q E) : t_CallPaper_of K (E1 Q) (start N_CallPaper_of vs) H := by
  obtain ⟨a, W, A, k, c, C, l, rfl, hw, hc, hk, hk2, q⟩ := h
  refine q_drop (ev_fn (ea_cons (ev_var rfl) (ea_cons (ev_var rfl) (ea_cons (ev_var rfl) ea_nil))) (spv_call_kinds hw hc.sq)) fun H1 e1 => ?_
  refine q_asgX (evx_fn (ea_cons (ev_var rfl) (ea_cons (ev_var rfl) (ea_cons (ev_var rfl) ea_nil))) (spx_call_set (hw.mono e1) hk (hc.mono e1))) fun y H2 e2 ⟨pc, lc, ey, hpc, hcc⟩ => ?_
  subst ey
  have e12 := e1.trans e2
  refine q_drop (ev_fn (ea_cons (ev_var rfl) (ea_cons (ev_var rfl) (ea_cons (ev_var rfl) ea_nil))) (spv_call_bounds (hw.mono e12) hcc hk2)) fun H3 e3 => ?_
  refine q_asgX (evx_fn (ea_cons (ev_var rfl) (ea_cons (ev_var rfl) (ea_cons (ev_var rfl) ea_nil))) (spx_forever_by_rises (hw.mono (e12.trans e3)) (hcc.mono e3) hk (by omega))) fun y H4 e4 ⟨pr, X, ey, hpr, hX⟩ => ?_
  subst ey
  have qX := ever_eq hX
  rw [← rowV_congr qX] at hpr
  have hX := hX.congr hw.ok qX.symm
  clear qX
  have e14 := e12.trans (e3.trans e4)
  have hcc4 := hcc.mono (e3.trans e4)
  refine q_asgX (P := fun y H5 => ∃ p1, y = .ref p1 ∧ SqT K H5 p1 (rowV W.n (eR W C k))) (evx_ix (evx_fn (ea_cons (ev_var rfl) (ea_cons (ev_var rfl) (ea_cons (ev_var rfl) (ea_cons (ev_var rfl) ea_nil)))) (spx_call_fall_out (hw.mono e14) hcc4 (.t hpr) hk hX)) (fun y H5 e5 ⟨p, p1, z, ey, h1, h2⟩ => ⟨p, _, _, ey, .t h1, rfl, p1, rfl, h2⟩)) fun y H5 e5 ⟨p1, ey, hp1⟩ => ?_
  subst ey
  have e15 := e14.trans e5
  have hcc5 := hcc4.mono e5
  have hpr5 := ex_t e5 hpr
  refine s_retX (P := fun y H' => ∃ p B, y = .ref p ∧ B.a = a ∧ PapAt K H' p W C k (eX W C k) (eR W C k) (eC W C k) B) ?_ fun y H6 e6 ⟨p, B, ey, hB, hp⟩ => ?_
  · have hct := evx_ix (K := K) (P' := fun y H5 => ∃ p1, y = .ref p1 ∧ SqT K H5 p1 (rowV W.n (eC W C k))) (i := 0)
      (evx_fn (σ := [some (.ref (gP K)), some (.ref a), some (.int k), some (.ref c), some (.ref pc), some (.ref pr), some (.ref p1)]) (ea_cons (ev_var (i := 1) rfl) (ea_cons (ev_var (i := 2) rfl) (ea_cons (ev_var (i := 4) rfl) (ea_cons (ev_var (i := 5) rfl) ea_nil)))) (spx_call_count_out (hw.mono e15) hcc5 (.t hpr5) hk hX)) (fun y H5 e5 ⟨p, p1, z, ey, h1, h2⟩ => ⟨p, _, _, ey, .t h1, rfl, p1, rfl, h2⟩)
    have args := fun H6 (e6 : Ex H5 H6) Q (q : ∀ vs H7, Ex H6 H7 → (∃ p2, vs = [V.ref a, .int k, .ref pc, .ref pr, .ref p1, .ref p2] ∧ SqT K H7 p2 (rowV W.n (eC W C k))) → Q vs H7) =>
      show tCons (tVar 1) (tCons (tVar 2) (tCons (tVar 4) (tCons (tVar 5) (tCons (tVar 6) (tCons (tOp (rIx K) (tFn (sp_call_count_out K) (tCons (tVar 1) (tCons (tVar 2) (tCons (tVar 4) (tCons (tVar 5) tNil))))) (tC (.int 0))) tNil))))) [some (.ref (gP K)), some (.ref a), some (.int k), some (.ref c), some (.ref pc), some (.ref pr), some (.ref p1)] H6 Q from
      ⟨_, rfl, _, rfl, _, rfl, _, rfl, _, rfl, hct H6 e6 _ fun y H7 e7 ⟨p2, ey, hp2⟩ => by
        subst ey
        exact q _ H7 e7 ⟨p2, rfl, hp2⟩⟩
    have mk := evx_mk (C := gP K) (sp := sp_CallPaper___init__ K) (P := fun y H' => ∃ p B, y = .ref p ∧ B.a = a ∧ PapAt K H' p W C k (eX W C k) (eR W C k) (eC W C k) B) args fun vs H7 x dx e7 ⟨p2, ev, hp2⟩ h1 h2 h3 Q qq => by
        subst ev
        exact ⟨H7, x, dx, a, W, A, k, pc, C, lc, pr, eX W C k, p1, _, p2, _, rfl, Fill.made h1 h2 h3, hw.mono (e15.trans e7), hcc5.mono e7, .t (ex_t e7 hpr5), .t (ex_t e7 hp1), .t hp2, hk, by omega, hX.rng, fun v _ _ => rnk_nn v _, fun v _ _ => rnk_nn v _, fun H' B e8 hB hp => qq H' e8 ⟨x, B, rfl, hB, hp⟩⟩
    exact fun H6 e6 Q q => ⟨rfl, mk H6 e6 Q q⟩
  · subst ey
    exact q p H6 B (e15.trans e6) hX hB hp
end
theorem d_CallPaper_of {P : Program} {w : World} {K : Frag} {mg : Str → Option Value} {base : Heap} (T : Txt w K mg) {f : Addr} {cdv : Value} {A : Around} {outer : List Env} {s : Shared} {H : Hp} {E : XK} (hr : Room 8 (A.deeper (envOfC "CallPaper.of" (defScope s_CallPaper_of) s.heap.objs.size f cdv))) :
    PSs (cxOf CX0 P w K mg base N_CallPaper_of "CallPaper.of" (defScope s_CallPaper_of) f cdv A outer s H E).nox (defBody s_CallPaper_of) (t_CallPaper_of K) := by
  exact (pss_cons (ps_expr (pe_f (ok_call_kinds T) hr (by decide) (by rfl) (pa_cons (pv 1) (pa_cons (pv 2) (pa_cons (pv 3) pa_nil)))))
    (pss_cons (ps_set (i := 4) sc_CallPaper_of.nd rfl (Or.inl rfl) (pe_f (ok_call_set T) hr (by decide) (by rfl) (pa_cons (pv 1) (pa_cons (pv 2) (pa_cons (pv 3) pa_nil)))))
    (pss_cons (ps_expr (pe_f (ok_call_bounds T) hr (by decide) (by rfl) (pa_cons (pv 1) (pa_cons (pv 2) (pa_cons (pv 4) pa_nil)))))
    (pss_cons (ps_set (i := 5) sc_CallPaper_of.nd rfl (Or.inl rfl) (pe_f (ok_forever_by_rises T) hr (by decide) (by rfl) (pa_cons (pv 1) (pa_cons (pv 2) (pa_cons (pv 4) pa_nil)))))
    (pss_cons (ps_set (i := 6) sc_CallPaper_of.nd rfl (Or.inl rfl) (pe_ix ix_seq (pe_f (ok_call_fall_out T) hr (by decide) (by rfl) (pa_cons (pv 1) (pa_cons (pv 2) (pa_cons (pv 4) (pa_cons (pv 5) pa_nil))))) pe_int (fun _ _ => rfl)))
    (pss_one (ps_ret (pe_makeV T.mkP (ok_CallPaper___init__ T) hr (by decide) (i := 0) (by rfl) (Or.inl rfl) (pa_cons (pv 1) (pa_cons (pv 2) (pa_cons (pv 4) (pa_cons (pv 5) (pa_cons (pv 6) (pa_cons (pe_ix ix_seq (pe_f (ok_call_count_out T) hr (by decide) (by rfl) (pa_cons (pv 1) (pa_cons (pv 2) (pa_cons (pv 4) (pa_cons (pv 5) pa_nil))))) pe_int (fun _ _ => rfl)) pa_nil))))))))))))))
theorem ok_CallPaper_of {P : Program} {w : World} {K : Frag} {mg : Str → Option Value} {base : Heap} (T : Txt w K mg) : FnR P w K mg base CX0 9 (cmG K (gP K) "of") (sp_CallPaper_of K) := by
  have F := T.def_ (d := xm_CallPaper_of) (memOf 49 rfl) rfl
  exact fnr_mk (k := 8) F sc_CallPaper_of (fun _ _ _ _ _ _ us hl => match us, hl with | [_, _, _, _], _ => rfl) (fun vs H Q E h => len_CallPaper_of h) (fun cdv A outer s H vs Q E hr h => ⟨t_CallPaper_of K, d_CallPaper_of T hr, pure_CallPaper_of T h⟩)
theorem spx_CallPaper_of {K : Frag} {H : Hp} {a c : Addr} {W : Wb} {A : WA} {k : Int} {C : Int → Bool} {l : List Int} (hw : WebAt K H a W A) (hc : CAt K H c W C l) (hk : 0 ≤ k) (hk2 : k ≤ 60) :
    SpX (sp_CallPaper_of K) [.ref (gP K), .ref a, .int k, .ref c] H (fun y H' => ∃ p B, y = .ref p ∧ IsEver W C (k + 1) (eX W C k) ∧ B.a = a ∧ PapAt K H' p W C k (eX W C k) (eR W C k) (eC W C k) B) :=
  fun H1 e Q q E => ⟨a, W, A, k, c, C, l, rfl, hw.mono e, hc.mono e, hk, hk2, fun p H2 B e2 h1 h2 h3 => q _ H2 e2 ⟨p, B, rfl, h1, h2, h3⟩⟩
/-! ### plans -/
theorem spx_as_row {K : Frag} {H : Hp} {a : Addr} {l : List Int} {n : Int} (h : SqA K H a (intV l)) (hn : (l.length : Int) = n) : SpX (sp_as_row K) [.ref a, .int n] H (fun y H' => ∃ p, y = .ref p ∧ SqT K H' p (intV l)) := fun H1 e Q q E => ⟨a, l, n, rfl, h.mono e, hn, fun p H2 l' e2 hp hl => q _ H2 e2 ⟨p, rfl, by rw [← hl]; exact hp⟩⟩
def plW (a : Addr) : List (Str × V) := [("_web", .ref a)]
def plK (a : Addr) (k : Int) : List (Str × V) := [("_web", .ref a), ("_chips", .int k)]
def plR (a : Addr) (k : Int) (r : Addr) : List (Str × V) := [("_web", .ref a), ("_chips", .int k), ("_row", .ref r)]
def sp_Plan___init__ (K : Frag) : Sp := fun vs H Q _ => ∃ H0 x C dx a W A k r X, vs = [.ref x, .ref a, .int k, .ref r] ∧ Ex H0 H ∧ H0 x = none ∧ H x = some (.ins C dx []) ∧ Cls K C ∧ NoAttr K C "_web" ∧ NoAttr K C "_chips" ∧ NoAttr K C "_row" ∧ WebAt K H0 a W A ∧ SqT K H0 r (rowV W.n X) ∧ 0 ≤ k ∧ k ≤ 1000 ∧
  ∀ H' r', Ex H0 H' → H' x = some (.ins C dx (plR a k r')) → SqT K H' r' (rowV W.n X) → Q .non H'
/-! Plan.__init__ -/
abbrev N_Plan___init__ : List Str := ["self", "web", "k", "row", "kept"]
abbrev s_Plan___init__ : Stmt := inClass (top 68) 0
theorem sc_Plan___init__ : FnScope N_Plan___init__ ["self", "web", "k", "row"] (defScope s_Plan___init__) := ⟨rfl, rfl, rfl, by decide +kernel, rfl, by decide +kernel, by decide +kernel⟩
def t_Plan___init__ (K : Frag) : TS := (tSeq (tDrop (tFn (sp_need_web K) (tCons (tVar 1) tNil)))
    (tSeq (tDrop (tFn (sp_need_integer K) (tCons (tVar 2) (tCons (tC (.str "k")) tNil))))
    (tSeq (tAsg (tFn (sp_as_row K) (tCons (tVar 3) (tCons (tPW_size K (tVar 1)) tNil))) (gName 4))
    (tSeq (tDrop (tFn (sp_need_from K) (tCons (tVar 2) (tCons (tC (.int 0)) (tCons (tC (.str "k")) tNil)))))
    (tSeq (tDrop (tFn (sp_need_up_to K) (tCons (tVar 2) (tCons (tC (.int 10000000000000000000000000000000000000000)) (tCons (tC (.str "k")) tNil)))))
    (tSeq (sFld K (tVar 0) (tVar 1) "_web")
    (tSeq (sFld K (tVar 0) (tVar 2) "_chips")
    (sFld K (tVar 0) (tVar 4) "_row"))))))))
section
variable {w : World} {K : Frag} {mg : Str → Option Value} {vs : List V} {H : Hp} {Q : VK} {E : XK}
theorem len_Plan___init__ (h : sp_Plan___init__ K vs H Q E) : vs.length = 4 := by obtain ⟨H0, x, C, dx, a, W, A, k, r, X, rfl, _⟩ := h; rfl
theorem pure_Plan___init__ (T : Txt w K mg) (h : sp_Plan___init__ K vs H Q E) : t_Plan___init__ K (E1 Q) (start N_Plan___init__ vs) H := by
  obtain ⟨H0, x, C, dx, a, W, A, k, r, X, rfl, e0, nx, hx, cls, n1, n2, n3, hw, hr, hk, hk2, q⟩ := h
  refine q_drop (ev_fn (ea_cons (ev_var rfl) ea_nil) (spv_need_web (hw.mono e0))) fun H1 e1 => ?_
  refine q_drop (ev_fn (ea_cons (ev_var rfl) (ea_cons ev_c ea_nil)) spv_need_integer) fun H2 e2 => ?_
  have e02 := e0.trans (e1.trans e2)
  refine q_asgX (evx_fn (ea_cons (ev_var rfl) (ea_cons (ev_Wsize (ev_var rfl) (hw.mono e02)) ea_nil)) (spx_as_row (l := (ran W.n).map X) (.t (by rw [← rowV_int]; exact ex_t e02 hr)) (by rw [List.length_map, ran_len]))) fun y H3 e3 ⟨p, ey, hp⟩ => ?_
  subst ey
  rw [← rowV_int] at hp
  refine q_drop (ev_fn (ea_cons (ev_var rfl) (ea_cons ev_c (ea_cons ev_c ea_nil))) (spv_need_from hk)) fun H4 e4 => ?_
  refine q_drop (ev_fn (ea_cons (ev_var rfl) (ea_cons ev_c (ea_cons ev_c ea_nil))) (spv_need_up_to (by omega))) fun H5 e5 => ?_
  have e05 := e02.trans (e3.trans (e4.trans e5))
  have hx5 := ((e1.trans e2).trans (e3.trans (e4.trans e5))) _ _ hx
  have hp5 := ex_t (e4.trans e5) hp
  refine q_fld (ev_var rfl) (ev_var rfl) hx5 cls n1 (by decide) fun H6 e6 => ?_
  have hp6 : SqT K (upd H6 x (.ins C dx (plW a))) p (rowV W.n X) := sqT_upd (ex_t e6 hp5) (fun ys z => by rw [e6 _ _ hx5] at z; cases z) fun ob u z => by rw [e6 _ _ hx5] at z; cases z
  have e06 : Ex H0 (upd H6 x (.ins C dx (plW a))) := Ex.mut (e05.trans e6) nx
  refine q_fld (H := upd H6 x (.ins C dx (plW a))) (ev_var rfl) (ev_var rfl) upd_same cls n2 (by show 1 < 1000; decide) fun H7 e7 => ?_
  have hx7 := e7 _ _ (upd_same (H := H6) (a := x) (o := .ins C dx (plW a)))
  have hp7 : SqT K (upd H7 x (.ins C dx (plK a k))) p (rowV W.n X) := sqT_upd (ex_t e7 hp6) (fun ys z => by rw [hx7] at z; cases z) fun ob u z => by rw [hx7] at z; cases z
  have e07 : Ex H0 (upd H7 x (.ins C dx (plK a k))) := Ex.mut (e06.trans e7) nx
  have hpf : putF "_chips" (V.int k) (plW a) = (plK a k) := rfl
  rw [hpf]
  refine s_fld (H := upd H7 x (.ins C dx (plK a k))) (ev_var rfl) (ev_var rfl) upd_same cls n3 (by show 2 < 1000; decide) fun H8 e8 => ?_
  have hx8 := e8 _ _ (upd_same (H := H7) (a := x) (o := .ins C dx (plK a k)))
  have hpf : putF "_row" (V.ref p) (plK a k) = (plR a k p) := rfl
  rw [hpf]
  exact q _ p (Ex.mut (e07.trans e8) nx) upd_same (sqT_upd (ex_t e8 hp7) (fun ys z => by rw [hx8] at z; cases z) fun ob u z => by rw [hx8] at z; cases z)
end
theorem d_Plan___init__ {P : Program} {w : World} {K : Frag} {mg : Str → Option Value} {base : Heap} (T : Txt w K mg) {f : Addr} {cdv : Value} {A : Around} {outer : List Env} {s : Shared} {H : Hp} {E : XK} (hr : Room 4 (A.deeper (envOfC "Plan.__init__" (defScope s_Plan___init__) s.heap.objs.size f cdv))) :
    PSs (cxOf CX0 P w K mg base N_Plan___init__ "Plan.__init__" (defScope s_Plan___init__) f cdv A outer s H E).nox (defBody s_Plan___init__) (t_Plan___init__ K) := by
  obtain ⟨_, hFAR_CHIPS⟩ := T.ints (memOf 2 rfl : (("FAR_CHIPS" : Str), (10000000000000000000000000000000000000000 : Int)) ∈ intsG)
  exact (pss_cons (ps_expr (pe_f (ok_need_web T) hr (by decide) (by rfl) (pa_cons (pv 1) pa_nil)))
    (pss_cons (ps_expr (pe_f (ok_need_integer T) hr (by decide) (by rfl) (pa_cons (pv 2) (pa_cons pe_str pa_nil))))
    (pss_cons (ps_set (i := 4) sc_Plan___init__.nd rfl (Or.inl rfl) (pe_f (ok_as_row T) hr (by decide) (by rfl) (pa_cons (pv 3) (pa_cons (pe_W_size T (pv 1) hr (by decide)) pa_nil))))
    (pss_cons (ps_expr (pe_f (ok_need_from T) hr (by decide) (by rfl) (pa_cons (pv 2) (pa_cons pe_int (pa_cons pe_str pa_nil)))))
    (pss_cons (ps_expr (pe_f (ok_need_up_to T) hr (by decide) (by rfl) (pa_cons (pv 2) (pa_cons (pe_glob (v := .int 10000000000000000000000000000000000000000) (by rfl) hFAR_CHIPS ⟨_, rfl⟩) (pa_cons pe_str pa_nil)))))
    (pss_cons (ps_fld (pv 0) (pv 1) rfl)
    (pss_cons (ps_fld (pv 0) (pv 2) rfl)
    (pss_one (ps_fld (pv 0) (pv 4) rfl)))))))))
theorem ok_Plan___init__ {P : Program} {w : World} {K : Frag} {mg : Str → Option Value} {base : Heap} (T : Txt w K mg) : FnR P w K mg base CX0 5 (He.ma K (gN K) "__init__") (sp_Plan___init__ K) := by
  have F := T.def_ (d := xm_Plan___init__) (memOf 57 rfl) rfl
  exact fnr_mk (k := 4) F sc_Plan___init__ (fun _ _ _ _ _ _ us hl => match us, hl with | [_, _, _, _], _ => rfl) (fun vs H Q E h => len_Plan___init__ h) (fun cdv A outer s H vs Q E hr h => ⟨t_Plan___init__ K, d_Plan___init__ T hr, pure_Plan___init__ T h⟩)
/-- a plan as it stands -/
def plF (a : Addr) (k : Int) (r p : Addr) : List (Str × V) := [("_web", .ref a), ("_chips", .int k), ("_row", .ref r), ("_paper", .ref p)]
structure PlAt (K : Frag) (H : Hp) (q C dx r p : Addr) (W : Wb) (Cc : Int → Bool) (k : Int) (X rk ct : Int → Int) (B : PA') : Prop where
  at_ : H q = some (.ins C dx (plF B.a k r p))
  row : SqT K H r (rowV W.n X)
  pap : PapAt K H p W Cc k X rk ct B
theorem PlAt.mono {K : Frag} {H H' : Hp} {q C dx r p : Addr} {W : Wb} {Cc : Int → Bool} {k : Int} {X rk ct : Int → Int} {B : PA'} (e : Ex H H') (h : PlAt K H q C dx r p W Cc k X rk ct B) : PlAt K H' q C dx r p W Cc k X rk ct B := ⟨e _ _ h.at_, ex_t e h.row, h.pap.mono e⟩
section
variable {K : Frag} {σ : L2.St} {H : Hp} {ta tb : TE} {q C dx r p : Addr} {W : Wb} {Cc : Int → Bool} {k : Int} {X rk ct : Int → Int} {B : PA'} (ha : Ev ta σ H (.ref q)) (h : PlAt K H q C dx r p W Cc k X rk ct B) (c : Cls K C)
include ha h c
theorem ev_Qweb (n : NoAttr K C "_web") : Ev (tFld K ta "_web") σ H (.ref B.a) := ev_fld ha h.at_ c n rfl
theorem ev_Qchips (n : NoAttr K C "_chips") : Ev (tFld K ta "_chips") σ H (.int k) := ev_fld ha h.at_ c n rfl
theorem ev_Qrow (n : NoAttr K C "_row") : Ev (tFld K ta "_row") σ H (.ref r) := ev_fld ha h.at_ c n rfl
theorem ev_Qpaper (n : NoAttr K C "_paper") : Ev (tFld K ta "_paper") σ H (.ref p) := ev_fld ha h.at_ c n rfl
end
/-- a class of plans -/
structure PlC (K : Frag) (C : Addr) : Prop where
  cls : Cls K C
  nw : NoAttr K C "_web"
  nk : NoAttr K C "_chips"
  nr : NoAttr K C "_row"
  np : NoAttr K C "_paper"
theorem Txt.pl1 {w : World} {K : Frag} {mg : Str → Option Value} (T : Txt w K mg) : PlC K (g1 K) := ⟨T.c1, T.n1 (memOf 0 rfl), T.n1 (memOf 1 rfl), T.n1 (memOf 2 rfl), T.n1 (memOf 3 rfl)⟩
theorem Txt.pl2 {w : World} {K : Frag} {mg : Str → Option Value} (T : Txt w K mg) : PlC K (g2 K) := ⟨T.c2, T.n2 (memOf 0 rfl), T.n2 (memOf 1 rfl), T.n2 (memOf 2 rfl), T.n2 (memOf 3 rfl)⟩
def sp_Plan_look (K : Frag) : Sp := fun vs H Q _ => ∃ q C dx r p W Cc k X rk ct B v a, vs = [.ref q, .int v, .int a] ∧ PlC K C ∧ PlAt K H q C dx r p W Cc k X rk ct B ∧ 0 ≤ v ∧ v < W.n ∧ 0 ≤ a ∧ a ≤ k ∧ RetV .non H Q
/-! Plan.look -/
abbrev N_Plan_look : List Str := ["self", "stand", "purse"]
abbrev s_Plan_look : Stmt := inClass (top 68) 6
theorem sc_Plan_look : FnScope N_Plan_look ["self", "stand", "purse"] (defScope s_Plan_look) := ⟨rfl, rfl, rfl, by decide +kernel, rfl, by decide +kernel, by decide +kernel⟩
def t_Plan_look (K : Frag) : TS := (tSeq (tDrop (tFn (sp_need_integer K) (tCons (tVar 1) (tCons (tC (.str "a stand")) tNil))))
    (tSeq (tDrop (tFn (sp_need_integer K) (tCons (tVar 2) (tCons (tC (.str "a purse")) tNil))))
    (tSeq (tDrop (tFn (sp_need_stand K) (tCons (tFld K (tVar 0) "_web") (tCons (tVar 1) tNil))))
    (tDrop (tFn (sp_need_between K) (tCons (tVar 2) (tCons (tC (.int 0)) (tCons (tFld K (tVar 0) "_chips") (tCons (tC (.str "a purse")) tNil)))))))))
section
variable {w : World} {K : Frag} {mg : Str → Option Value} {vs : List V} {H : Hp} {Q : VK} {E : XK}
theorem len_Plan_look (h : sp_Plan_look K vs H Q E) : vs.length = 3 := by obtain ⟨q, C, dx, r, p, W, Cc, k, X, rk, ct, B, v, a, rfl, _⟩ := h; rfl
theorem pure_Plan_look (T : Txt w K mg) (h : sp_Plan_look K vs H Q E) : t_Plan_look K (E1 Q) (start N_Plan_look vs) H := by
  obtain ⟨q, C, dx, r, p, W, Cc, k, X, rk, ct, B, v, a, rfl, c, hp, h0, h1, h2, h3, kk⟩ := h
  refine q_drop (ev_fn (ea_cons (ev_var rfl) (ea_cons ev_c ea_nil)) spv_need_integer) fun H1 e1 => ?_
  refine q_drop (ev_fn (ea_cons (ev_var rfl) (ea_cons ev_c ea_nil)) spv_need_integer) fun H2 e2 => ?_
  have hp2 := hp.mono (e1.trans e2)
  refine q_drop (ev_fn (ea_cons (ev_Qweb (ev_var rfl) hp2 c.cls c.nw) (ea_cons (ev_var rfl) ea_nil)) (spv_need_stand hp2.pap.web h0 h1)) fun H3 e3 => ?_
  exact s_drop (ev_fn (ea_cons (ev_var rfl) (ea_cons ev_c (ea_cons (ev_Qchips (ev_var rfl) (hp2.mono e3) c.cls c.nk) (ea_cons ev_c ea_nil)))) (spv_need_between h2 h3)) fun H4 e4 => kk H4 ((e1.trans e2).trans (e3.trans e4))
end
theorem d_Plan_look {P : Program} {w : World} {K : Frag} {mg : Str → Option Value} {base : Heap} (T : Txt w K mg) {f : Addr} {cdv : Value} {A : Around} {outer : List Env} {s : Shared} {H : Hp} {E : XK} (hr : Room 3 (A.deeper (envOfC "Plan.look" (defScope s_Plan_look) s.heap.objs.size f cdv))) :
    PSs (cxOf CX0 P w K mg base N_Plan_look "Plan.look" (defScope s_Plan_look) f cdv A outer s H E).nox (defBody s_Plan_look) (t_Plan_look K) := by
  exact (pss_cons (ps_expr (pe_f (ok_need_integer T) hr (by decide) (by rfl) (pa_cons (pv 1) (pa_cons pe_str pa_nil))))
    (pss_cons (ps_expr (pe_f (ok_need_integer T) hr (by decide) (by rfl) (pa_cons (pv 2) (pa_cons pe_str pa_nil))))
    (pss_cons (ps_expr (pe_f (ok_need_stand T) hr (by decide) (by rfl) (pa_cons (pe_fld (pv 0) rfl) (pa_cons (pv 1) pa_nil))))
    (pss_one (ps_expr (pe_f (ok_need_between T) hr (by decide) (by rfl) (pa_cons (pv 2) (pa_cons pe_int (pa_cons (pe_fld (pv 0) rfl) (pa_cons pe_str pa_nil))))))))))
theorem ok_Plan_look {P : Program} {w : World} {K : Frag} {mg : Str → Option Value} {base : Heap} (T : Txt w K mg) : FnR P w K mg base CX0 4 (He.ma K (gN K) "look") (sp_Plan_look K) := by
  have F := T.def_ (d := xm_Plan_look) (memOf 59 rfl) rfl
  exact fnr_mk (k := 3) F sc_Plan_look (fun _ _ _ _ _ _ us hl => match us, hl with | [_, _, _], _ => rfl) (fun vs H Q E h => len_Plan_look h) (fun cdv A outer s H vs Q E hr h => ⟨t_Plan_look K, d_Plan_look T hr, pure_Plan_look T h⟩)
theorem ok_look1 {P : Program} {w : World} {K : Frag} {mg : Str → Option Value} {base : Heap} (T : Txt w K mg) : FnR P w K mg base CX0 4 (He.ma K (g1 K) "look") (sp_Plan_look K) := by
  rw [T.look1]
  exact ok_Plan_look T
theorem ok_look2 {P : Program} {w : World} {K : Frag} {mg : Str → Option Value} {base : Heap} (T : Txt w K mg) : FnR P w K mg base CX0 4 (He.ma K (g2 K) "look") (sp_Plan_look K) := by
  rw [T.look2]
  exact ok_Plan_look T
def sp_Plan_row (K : Frag) : Sp := fun vs H Q _ => ∃ q C dx r p W Cc k X rk ct B, vs = [.ref q] ∧ PlC K C ∧ PlAt K H q C dx r p W Cc k X rk ct B ∧ RetV (.ref r) H Q
/-! Plan.row -/
abbrev N_Plan_row : List Str := ["self"]
abbrev s_Plan_row : Stmt := inClass (top 68) 4
theorem sc_Plan_row : FnScope N_Plan_row ["self"] (defScope s_Plan_row) := ⟨rfl, rfl, rfl, by decide +kernel, rfl, by decide +kernel, by decide +kernel⟩
def t_Plan_row (K : Frag) : TS := (tRet (tFld K (tVar 0) "_row"))
section
variable {w : World} {K : Frag} {mg : Str → Option Value} {vs : List V} {H : Hp} {Q : VK} {E : XK}
theorem len_Plan_row (h : sp_Plan_row K vs H Q E) : vs.length = 1 := by obtain ⟨q, C, dx, r, p, W, Cc, k, X, rk, ct, B, rfl, _⟩ := h; rfl
theorem pure_Plan_row (T : Txt w K mg) (h : sp_Plan_row K vs H Q E) : t_Plan_row K (E1 Q) (start N_Plan_row vs) H := by
  obtain ⟨q, C, dx, r, p, W, Cc, k, X, rk, ct, B, rfl, c, hp, kk⟩ := h
  exact s_ret (ev_Qrow (ev_var rfl) hp c.cls c.nr) fun H1 e1 => kk H1 e1
end
theorem d_Plan_row {P : Program} {w : World} {K : Frag} {mg : Str → Option Value} {base : Heap} (T : Txt w K mg) {f : Addr} {cdv : Value} {A : Around} {outer : List Env} {s : Shared} {H : Hp} {E : XK} (hr : Room 0 (A.deeper (envOfC "Plan.row" (defScope s_Plan_row) s.heap.objs.size f cdv))) :
    PSs (cxOf CX0 P w K mg base N_Plan_row "Plan.row" (defScope s_Plan_row) f cdv A outer s H E).nox (defBody s_Plan_row) (t_Plan_row K) := by
  exact (pss_one (ps_ret (pe_fld (pv 0) rfl)))
theorem ok_Plan_row {P : Program} {w : World} {K : Frag} {mg : Str → Option Value} {base : Heap} (T : Txt w K mg) : FnR P w K mg base CX0 1 (pgG K (gN K) "row") (sp_Plan_row K) := by
  have F := T.def_ (d := xm_Plan_row) (memOf 58 rfl) rfl
  exact fnr_mk (k := 0) F sc_Plan_row (fun _ _ _ _ _ _ us hl => match us, hl with | [_], _ => rfl) (fun vs H Q E h => len_Plan_row h) (fun cdv A outer s H vs Q E hr h => ⟨t_Plan_row K, d_Plan_row T hr, pure_Plan_row T h⟩)
def sp_outcome_of (K : Frag) : Sp := fun vs H Q _ => ∃ m a p q, vs = [.int m, .int a, .int p, .int q] ∧ RetP K (if q < p ∨ (p = q ∧ m = 1) then 1 else 2) (if q < p ∨ (p = q ∧ m = 1) then a - p else a + q) H Q
/-! outcome_of -/
abbrev N_outcome_of : List Str := ["mark", "purse", "p", "q"]
abbrev s_outcome_of : Stmt := top 70
theorem sc_outcome_of : FnScope N_outcome_of ["mark", "purse", "p", "q"] (defScope s_outcome_of) := ⟨rfl, rfl, rfl, by decide +kernel, rfl, by decide +kernel, by decide +kernel⟩
def t_outcome_of (K : Frag) : TS := (tSeq (tIfS (tOr (tTest (tOp rGt (tVar 2) (tVar 3))) (tAnd (tTest (tOp rEq (tVar 2) (tVar 3))) (tTest (tOp rEq (tVar 0) (tC (.int 1)))))) (tRet (tTup (tCons (tC (.int 1)) (tCons (tOp rSub (tVar 1) (tVar 2)) tNil)))) tNext)
    (tRet (tTup (tCons (tC (.int 2)) (tCons (tOp rAdd (tVar 1) (tVar 3)) tNil)))))
section
variable {w : World} {K : Frag} {mg : Str → Option Value} {vs : List V} {H : Hp} {Q : VK} {E : XK}
theorem len_outcome_of (h : sp_outcome_of K vs H Q E) : vs.length = 4 := by obtain ⟨m, a, p, q, rfl, _⟩ := h; rfl
theorem pure_outcome_of (T : Txt w K mg) (h : sp_outcome_of K vs H Q E) : t_outcome_of K (E1 Q) (start N_outcome_of vs) H := by
  obtain ⟨m, a, p, q, rfl, k⟩ := h
  have ht := et_or (et_test (ev_I (ta := tVar 2) (tb := tVar 3) (σ := [some (.int m), some (.int a), some (.int p), some (.int q)]) (H := H) (g := fun i j => .bl (decide (j < i))) (ev_var rfl) (ev_var rfl))) fun _ => et_and (et_test (ev_eqI (ta := tVar 2) (tb := tVar 3) (ev_var rfl) (ev_var rfl))) fun _ => et_test (ev_eqI (ta := tVar 0) (tb := tC (.int 1)) (ev_var rfl) ev_c)
  refine q_when ht (fun hb H1 e1 => ?_) fun hb H1 e1 => ?_
  · have z : q < p ∨ (p = q ∧ m = 1) := by simpa using hb
    refine s_retX (EvU.toX (eu_tup (vs := [.int 1, .int (a - p)]) (ea_cons ev_c (ea_cons (ev_I (ev_var rfl) (ev_var rfl)) ea_nil)) (by show 2 ≤ 100000; decide))) fun y H2 e2 ⟨pp, ey, hp⟩ => ?_
    subst ey
    exact k pp H2 (e1.trans e2) (by rw [if_pos z, if_pos z]; exact st_of hp)
  · have z : ¬ (q < p ∨ (p = q ∧ m = 1)) := by simpa using hb
    refine s_retX (EvU.toX (eu_tup (vs := [.int 2, .int (a + q)]) (ea_cons ev_c (ea_cons (ev_I (ev_var rfl) (ev_var rfl)) ea_nil)) (by show 2 ≤ 100000; decide))) fun y H2 e2 ⟨pp, ey, hp⟩ => ?_
    subst ey
    exact k pp H2 (e1.trans e2) (by rw [if_neg z, if_neg z]; exact st_of hp)
end
theorem d_outcome_of {P : Program} {w : World} {K : Frag} {mg : Str → Option Value} {base : Heap} (T : Txt w K mg) {f : Addr} {cdv : Value} {A : Around} {outer : List Env} {s : Shared} {H : Hp} {E : XK} (hr : Room 0 (A.deeper (envOfC "outcome_of" (defScope s_outcome_of) s.heap.objs.size f cdv))) :
    PSs (cxOf CX0 P w K mg base N_outcome_of "outcome_of" (defScope s_outcome_of) f cdv A outer s H E).nox (defBody s_outcome_of) (t_outcome_of K) := by
  exact (pss_cons (ps_if (PW.pt (pw_or (pt_cmpR op_gt (pv 2) (pv 3) (nomark _)) (pw_or1 (PW.pt (pw_and (pt_cmpR op_eq (pv 2) (pv 3) (nomark _)) (pw_and1 (pt_cmpR op_eq (pv 0) pe_int (nomark _)))))))) (pss_one (ps_ret (pe_tup (pa_cons pe_int (pa_cons (pe_op op_sub (pv 1) (pv 2)) pa_nil))))) pss_nil)
    (pss_one (ps_ret (pe_tup (pa_cons pe_int (pa_cons (pe_op op_add (pv 1) (pv 3)) pa_nil))))))
theorem ok_outcome_of {P : Program} {w : World} {K : Frag} {mg : Str → Option Value} {base : Heap} (T : Txt w K mg) : GF P w K mg base "outcome_of" 1 (sp_outcome_of K) := by
  have F := T.def_ (d := xf_outcome_of) (memOf 60 rfl) rfl
  refine ⟨fnr_mk (k := 0) F sc_outcome_of (fun _ _ _ _ _ _ us hl => match us, hl with | [_, _, _, _], _ => rfl) (fun vs H Q E h => len_outcome_of h) (fun cdv A outer s H vs Q E hr h => ⟨t_outcome_of K, d_outcome_of T hr, pure_outcome_of T h⟩), ?_, T.glo (memOf 42 rfl)⟩
  obtain ⟨fd, F⟩ := F
  exact F.kp
end Pw
end

section
set_option maxRecDepth 100000
set_option maxHeartbeats 4000000
/-! Both plans made. -/
namespace Pw
open PySem PySem.Spec L2 Evl StX PwS SlX
open PyProof.Rows hiding St
theorem sup_facts {w : World} {K : Frag} {mg : Str → Option Value} (T : Txt w K mg) {C : Addr} {d : DX} (hd : d ∈ fn) (hclo : d.clo = [("__class__" : Str)]) (hdfl : d.dfl = []) (hat : d.at_ K = He.ma K C "__init__") (h1 : cellB K C = true) (h2 : superB K C (gN K) = true) (h3 : codeFB K C = true) :
    ∃ (oc : Value) (od : Option Addr) (kV doc pm : Value) (an : Option Addr) (ct : Value) (osl : Array (Option Value)) (cc c : Addr) (cdC : ClassData) (ccl : Value) (cdd : Option Addr) (vsC : Array Value) (ccs : Array (Option Value)) (tf : Tok) (cl0 : Value) (cld : Option Addr) (csl : Array (Option Value)),
      K.lookup (He.ma K C "__init__") = some ⟨oc, od, .func (PySem.W.ksFn d.name d.qual (defArgs d.st) (defBody d.st) (defScope d.st) .none kV doc pm an (.ref c) ct cc), osl⟩ ∧ PySem.W.codeIn K (.ref c) d.qual = true ∧ K.lookup c = some ⟨ccl, cdd, .fields vsC, ccs⟩ ∧ vsC[2]? = some (.str ("/claim/cut.py" : Str) tf) ∧
      K.lookup cc = some ⟨cl0, cld, .cell (some (.ref C)), csl⟩ ∧ PySem.W.clsIn K C = some cdC ∧ PySem.W.mroIn K C (.ref C) = some true ∧ PySem.W.nsIn K cStatics "thirdparty.any" = some none ∧
      PySem.W.ks_superIn K C C "__init__" = some (some (.ref (He.ma K (gN K) "__init__"))) ∧ PySem.W.typeIn K (.ref (He.ma K (gN K) "__init__")) = some (.type "function") := by
  obtain ⟨e, cok⟩ := T.says.def_ hd
  obtain ⟨oc, od, kV, doc, pm, an, cdv, ct, osl, cc, lk, hcd⟩ := d.funC e cok hclo hdfl
  rw [hat] at lk
  obtain ⟨s1, s⟩ := He.ba h2
  obtain ⟨s2, s⟩ := He.ba s
  obtain ⟨s3, s⟩ := He.ba s
  obtain ⟨s4, s5⟩ := He.ba s
  obtain ⟨cdC, hC⟩ := Option.isSome_iff_exists.mp s1
  unfold cellB at h1
  rw [lk] at h1
  unfold codeFB at h3
  rw [lk] at h3
  cases cdv with
  | ref c =>
    have h3' : (match K.lookup c with
      | some ⟨_, _, .fields vs, _⟩ => (match (vs[2]? : Option Value) with
        | some (Value.str file _) => decide (file = ("/claim/cut.py" : Str))
        | _ => false)
      | _ => false) = true := h3
    have h1' : (match K.lookup cc with
      | some ⟨_, _, .cell (some (.ref D)), _⟩ => decide (D = C)
      | _ => false) = true := h1
    split at h3'
    · rename_i q1 q2 vs q3 hk
      split at h3'
      · rename_i file tf hv
        have hf := of_decide_eq_true h3'
        subst hf
        split at h1'
        · rename_i z1 z2 D z3 hkc
          have hD := of_decide_eq_true h1'
          subst hD
          exact ⟨oc, od, kV, doc, pm, an, ct, osl, cc, c, cdC, _, _, vs, _, tf, _, _, _, lk, hcd, hk, hv, hkc, hC, of_decide_eq_true s2, He.eqO_ok s3, He.eqO_ok s4, of_decide_eq_true s5⟩
        · cases h1'
      · cases h3'
    · cases h3'
  | _ => cases hcd
theorem fn_of_type {K : Frag} {a : Addr} (h : ∃ fd : FuncData, ∃ oc od osl, K.lookup a = some ⟨oc, od, .func fd, osl⟩) : PySem.W.fnIn K a = true := by
  obtain ⟨fd, oc, od, osl, h⟩ := h
  unfold PySem.W.fnIn
  rw [h]
theorem plan_fn {w : World} {K : Frag} {mg : Str → Option Value} (T : Txt w K mg) : PySem.W.fnIn K (He.ma K (gN K) "__init__") = true := by
  obtain ⟨fd, F⟩ := T.def_ (d := xm_Plan___init__) (memOf 57 rfl) rfl
  obtain ⟨oc, od, dV, kV, doc, pm, an, cdv, ct, osl, _, lk, _⟩ := F.ex
  exact fn_of_type ⟨fd, oc, od, osl, lk⟩

/-! CallFirst.__init__ -/
abbrev s_CallFirst___init__ : Stmt := inClass (top 73) 0
def sp_CallFirst___init__ (K : Frag) : Sp := fun vs H Q _ => ∃ H0 x dx p W Cc k X rk ct B, vs = [.ref x, .ref p] ∧ Ex H0 H ∧ H0 x = none ∧ H x = some (.ins (g1 K) dx []) ∧ PapAt K H0 p W Cc k X rk ct B ∧ ∀ H' r, Ex H0 H' → PlAt K H' x (g1 K) dx r p W Cc k X rk ct B → Q .non H'
def st1_CallFirst : Stmt := (defBody s_CallFirst___init__).getD 0 (.Pass ⟨0, 0, 0, 0⟩)
theorem scn_CallFirst : NdefX.NScope ["self", "paper", "__class__"] ["self", "paper"] ["__class__"] (defScope s_CallFirst___init__) := NdefX.nscope_by (by decide +kernel)
theorem ok_CallFirst___init__ {w : World} {K : Frag} {mg : Str → Option Value} {base : Heap} (T : Txt w K mg) : FnR PP w K mg base CX0 7 (He.ma K (g1 K) "__init__") (sp_CallFirst___init__ K) := by
  obtain ⟨oc, od, kV, doc, pm, an, ct, osl, cc, c, cdC, ccl, cdd, vsC, ccs, tf, cl0, cld, csl, lk, hcd, hk, hv, hkc, hC, hmro, hop, hm, hty⟩ := sup_facts T (C := g1 K) (d := xm_CallFirst___init__) (memOf 61 rfl) rfl rfl rfl (T.says.fact 28) (T.says.fact 30) (T.says.fact 32)
  refine fnr_super (st := s_CallFirst___init__) (k := 5) (name := "__init__") (qual := "CallFirst.__init__") (spN := sp_Plan___init__ K) lk hcd hk hv hkc hC hmro hop hm hty (plan_fn T) (T.free (memOf 12 rfl)) scn_CallFirst (by decide +kernel) (fun us hl => match us, hl with | [_, _], _ => rfl) (by decide +kernel) (by decide +kernel) (by decide +kernel) (by decide +kernel) (by decide +kernel)
    (fun vs H Q E h => by obtain ⟨H0, x, dx, p, W, Cc, k, X, rk, ct, B, rfl, _⟩ := h; rfl) ((ok_Plan___init__ T).mono (by decide)) (fun env => rfl) (fun env => rfl) (fun env => rfl) (fun env => ⟨_, rfl⟩) ?_
  intro A outer s H vs Q E hr h
  obtain ⟨H0, x, dx, p, W, Cc, k, X, rk, ct', B, rfl, e0, nx, hx, hp, q⟩ := h
  refine ⟨tDrop (tFn (sp_need_call_paper K) (tCons (tVar 1) tNil)), tCons (tPP_web K (tVar 1)) (tCons (tPP_chips K (tVar 1)) (tCons (tPP_row K (tVar 1)) tNil)), sFld K (tVar 0) (tVar 1) "_paper", ?_, ?_, ?_, ?_⟩
  · exact ps_expr (pe_f (ok_need_call_paper T) hr (by decide) (by rfl) (pa_cons (pv 1) pa_nil))
  · exact pa_cons (pe_P_web T (pv 1) hr (by decide)) (pa_cons (pe_P_chips T (pv 1) hr (by decide)) (pa_cons (pe_P_row T (pv 1) hr (by decide)) pa_nil))
  · exact pss_one (ps_fld (pv 0) (pv 1) rfl)
  · refine s_drop (ev_fn (ea_cons (ev_var rfl) ea_nil) (spv_need_call_paper (hp.mono e0))) fun H1 e1 => ?_
    have hp1 := hp.mono (e0.trans e1)
    refine ⟨x, g1 K, dx, [], rfl, e1 _ _ hx, rfl, ?_⟩
    refine ea_cons (ev_Pweb (ev_var rfl) hp1) (ea_cons (ev_Pchips (ev_var rfl) hp1) (ea_cons (ev_Prow (ev_var rfl) hp1) ea_nil)) H1 (Ex.refl _) _ fun H2 e2 => ?_
    have e02 := (e0.trans e1).trans e2
    refine ⟨H0, x, g1 K, dx, B.a, W, B.A, k, B.r, X, rfl, e02, nx, (e1.trans e2) _ _ hx, T.pl1.cls, T.pl1.nw, T.pl1.nk, T.pl1.nr, hp.web, hp.hr, hp.k0, hp.k1, fun H3 r e3 hx3 hr3 => ?_⟩
    refine s_fld (ev_var rfl) (ev_var rfl) hx3 T.pl1.cls T.pl1.np (by show 3 < 1000; decide) fun H4 e4 => ?_
    have e04 : Ex H0 (upd H4 x (.ins (g1 K) dx (putF "_paper" (.ref p) (plR B.a k r)))) := Ex.mut (e3.trans e4) nx
    exact q _ r e04 ⟨upd_same, sqT_upd (ex_t e4 hr3) (fun ys z => by rw [e4 _ _ hx3] at z; cases z) (fun ob u z => by rw [e4 _ _ hx3] at z; cases z), hp.mono e04⟩

/-! CallSecond.__init__ -/
abbrev s_CallSecond___init__ : Stmt := inClass (top 74) 0
def sp_CallSecond___init__ (K : Frag) : Sp := fun vs H Q _ => ∃ H0 x dx p W Cc k X rk ct B, vs = [.ref x, .ref p] ∧ Ex H0 H ∧ H0 x = none ∧ H x = some (.ins (g2 K) dx []) ∧ PapAt K H0 p W Cc k X rk ct B ∧ ∀ H' r, Ex H0 H' → PlAt K H' x (g2 K) dx r p W Cc k X rk ct B → Q .non H'
def st1_CallSecond : Stmt := (defBody s_CallSecond___init__).getD 0 (.Pass ⟨0, 0, 0, 0⟩)
theorem scn_CallSecond : NdefX.NScope ["self", "paper", "__class__"] ["self", "paper"] ["__class__"] (defScope s_CallSecond___init__) := NdefX.nscope_by (by decide +kernel)
theorem ok_CallSecond___init__ {w : World} {K : Frag} {mg : Str → Option Value} {base : Heap} (T : Txt w K mg) : FnR PP w K mg base CX0 7 (He.ma K (g2 K) "__init__") (sp_CallSecond___init__ K) := by
  obtain ⟨oc, od, kV, doc, pm, an, ct, osl, cc, c, cdC, ccl, cdd, vsC, ccs, tf, cl0, cld, csl, lk, hcd, hk, hv, hkc, hC, hmro, hop, hm, hty⟩ := sup_facts T (C := g2 K) (d := xm_CallSecond___init__) (memOf 65 rfl) rfl rfl rfl (T.says.fact 29) (T.says.fact 31) (T.says.fact 33)
  refine fnr_super (st := s_CallSecond___init__) (k := 5) (name := "__init__") (qual := "CallSecond.__init__") (spN := sp_Plan___init__ K) lk hcd hk hv hkc hC hmro hop hm hty (plan_fn T) (T.free (memOf 12 rfl)) scn_CallSecond (by decide +kernel) (fun us hl => match us, hl with | [_, _], _ => rfl) (by decide +kernel) (by decide +kernel) (by decide +kernel) (by decide +kernel) (by decide +kernel)
    (fun vs H Q E h => by obtain ⟨H0, x, dx, p, W, Cc, k, X, rk, ct, B, rfl, _⟩ := h; rfl) ((ok_Plan___init__ T).mono (by decide)) (fun env => rfl) (fun env => rfl) (fun env => rfl) (fun env => ⟨_, rfl⟩) ?_
  intro A outer s H vs Q E hr h
  obtain ⟨H0, x, dx, p, W, Cc, k, X, rk, ct', B, rfl, e0, nx, hx, hp, q⟩ := h
  refine ⟨tDrop (tFn (sp_need_call_paper K) (tCons (tVar 1) tNil)), tCons (tPP_web K (tVar 1)) (tCons (tPP_chips K (tVar 1)) (tCons (tPP_row K (tVar 1)) tNil)), sFld K (tVar 0) (tVar 1) "_paper", ?_, ?_, ?_, ?_⟩
  · exact ps_expr (pe_f (ok_need_call_paper T) hr (by decide) (by rfl) (pa_cons (pv 1) pa_nil))
  · exact pa_cons (pe_P_web T (pv 1) hr (by decide)) (pa_cons (pe_P_chips T (pv 1) hr (by decide)) (pa_cons (pe_P_row T (pv 1) hr (by decide)) pa_nil))
  · exact pss_one (ps_fld (pv 0) (pv 1) rfl)
  · refine s_drop (ev_fn (ea_cons (ev_var rfl) ea_nil) (spv_need_call_paper (hp.mono e0))) fun H1 e1 => ?_
    have hp1 := hp.mono (e0.trans e1)
    refine ⟨x, g2 K, dx, [], rfl, e1 _ _ hx, rfl, ?_⟩
    refine ea_cons (ev_Pweb (ev_var rfl) hp1) (ea_cons (ev_Pchips (ev_var rfl) hp1) (ea_cons (ev_Prow (ev_var rfl) hp1) ea_nil)) H1 (Ex.refl _) _ fun H2 e2 => ?_
    have e02 := (e0.trans e1).trans e2
    refine ⟨H0, x, g2 K, dx, B.a, W, B.A, k, B.r, X, rfl, e02, nx, (e1.trans e2) _ _ hx, T.pl2.cls, T.pl2.nw, T.pl2.nk, T.pl2.nr, hp.web, hp.hr, hp.k0, hp.k1, fun H3 r e3 hx3 hr3 => ?_⟩
    refine s_fld (ev_var rfl) (ev_var rfl) hx3 T.pl2.cls T.pl2.np (by show 3 < 1000; decide) fun H4 e4 => ?_
    have e04 : Ex H0 (upd H4 x (.ins (g2 K) dx (putF "_paper" (.ref p) (plR B.a k r)))) := Ex.mut (e3.trans e4) nx
    exact q _ r e04 ⟨upd_same, sqT_upd (ex_t e4 hr3) (fun ys z => by rw [e4 _ _ hx3] at z; cases z) (fun ob u z => by rw [e4 _ _ hx3] at z; cases z), hp.mono e04⟩
end Pw
end

section
set_option maxRecDepth 100000
set_option maxHeartbeats 4000000
/-! What both plans answer. -/
namespace Pw
open PySem PySem.Spec L2 Evl StX PwS SlX
open PyProof.Rows hiding St
section
variable {K : Frag} {σ : L2.St} {H H0 : Hp} {ta tb tc tv te : TE} {D : Ends} {tz : TS} {x dx C p : Addr} {xs : List V} {P P' : V → Hp → Prop} {sp : Sp} {ar : TA} {fs : List (Str × V)} {v z : V} {vs : List V} {m : Str}
theorem ev_methR (ha : Ev ta σ H (.ref p)) (h : H p = some (.ins C dx fs)) (l : fs.lookup m = none) (hv : EvA ar σ H vs) (hs : SpV sp (.ref p :: vs) H z) : Ev (tMethR C m sp E0 ta ar) σ H z := fun H1 e Q q =>
  ha H1 e _ fun H2 e2 => ⟨p, dx, fs, rfl, (e.trans e2) _ _ h, l, hv H2 (e.trans e2) _ fun H3 e3 => hs H3 ((e.trans e2).trans e3) Q (fun H4 e4 => q H4 ((e2.trans e3).trans e4)) E0⟩
theorem evx_methR (ha : Ev ta σ H (.ref p)) (h : H p = some (.ins C dx fs)) (l : fs.lookup m = none) (hv : EvA ar σ H vs) (hs : SpX sp (.ref p :: vs) H P) : EvX (tMethR C m sp E0 ta ar) σ H P := fun H1 e Q q =>
  ha H1 e _ fun H2 e2 => ⟨p, dx, fs, rfl, (e.trans e2) _ _ h, l, hv H2 (e.trans e2) _ fun H3 e3 => hs H3 ((e.trans e2).trans e3) Q (fun v H4 e4 hp => q v H4 ((e2.trans e3).trans e4) hp) E0⟩
theorem evx_callI (ha : Ev ta σ H (.ref p)) (h : H p = some (.ins C dx fs)) (hv : EvA ar σ H vs) (hs : SpX sp (.ref p :: vs) H P) : EvX (tCallI C sp ta ar) σ H P := fun H1 e Q q =>
  ha H1 e _ fun H2 e2 => ⟨p, rfl, hv H2 (e.trans e2) _ fun H3 e3 => ⟨.inr ⟨dx, fs, ((e.trans e2).trans e3) _ _ h⟩, hs H3 ((e.trans e2).trans e3) Q (fun v H4 e4 hp => q v H4 ((e2.trans e3).trans e4) hp) E0⟩⟩
theorem el_fn {xs : List V} (h : EvA ar σ H vs) (hs : SpL sp vs H xs) : EvL (tFn sp ar) σ H xs := fun H1 e Q q =>
  h H1 e _ fun H2 e2 => hs H2 (e.trans e2) Q (fun p H3 hp e3 h3 => q p H3 (fresh_back e2 hp) (e2.trans e3) h3) E0
theorem evx_ev (h : EvX te σ H (fun y _ => y = v)) : Ev te σ H v := fun H1 e Q q => h H1 e Q fun y H2 e2 ey => by rw [ey]; exact q H2 e2
/-- a, b = .. -/
theorem q_pair {i j : Nat} {P : V → Hp → Prop} {a b : V} (h : EvX te σ H (fun y H' => ∃ p, y = .ref p ∧ SqT K H' p [a, b])) (k : ∀ H1, Ex H H1 → tz D ((σ.set i (some a)).set j (some b)) H1) : tSeq (tAsg te (gTup K 2 (gCons (gName i) (gCons (gName j) gNil)))) tz D σ H :=
  h H (Ex.refl _) _ fun y H1 e ⟨p, ey, hp⟩ => ⟨p, [a, b], ey, hp, rfl, a, [b], rfl, b, [], rfl, rfl, k H1 e⟩
theorem ea_X {PA : List V → Hp → Prop} {tb : TA} {xs : List V} (ha : EvL ta σ H xs) (hb : ∀ H1, Ex H H1 → EvA tb σ H1 vs) : EvAX (tCons ta tb) σ H (fun ws H' => ∃ p, ws = .ref p :: vs ∧ SqL K H' p xs) := fun H1 e Q q =>
  ha H1 e _ fun p H2 _ e2 h2 => hb H2 (e.trans e2) H2 (Ex.refl _) _ fun H3 e3 => q _ H3 (e2.trans e3) ⟨p, rfl, sq_of (e3 _ _ h2)⟩
theorem ea_1 {PA : List V → Hp → Prop} {tb : TA} (ha : Ev ta σ H v) (hb : EvAX tb σ H PA) : EvAX (tCons ta tb) σ H (fun ws H' => ∃ us, ws = v :: us ∧ PA us H') := fun H1 e Q q =>
  ha H1 e _ fun H2 e2 => hb H2 (e.trans e2) _ fun us H3 e3 hp => q _ H3 (e2.trans e3) ⟨us, rfl, hp⟩
theorem head_min {l : List Int} (h : l.Pairwise (· < ·)) (hn : l ≠ []) : nth l 0 = minOf l := by
  cases l with
  | nil => exact absurd rfl hn
  | cons a l =>
    refine minOf_is List.mem_cons_self fun x hx => ?_
    rcases List.mem_cons.mp hx with e | e
    · rw [e]; exact Int.le_refl _
    · exact Int.le_of_lt ((List.pairwise_cons.mp h).1 x e)
end
/-- a plan answers: what it wants -/
def PlQ (K : Frag) (C : Addr) (H : Hp) (q : Addr) (W : Wb) (Cc : Int → Bool) (k : Int) (X rk ct : Int → Int) : Prop := ∃ dx r p B, PlAt K H q C dx r p W Cc k X rk ct B
theorem PlQ.mono {K : Frag} {C : Addr} {H H' : Hp} {q : Addr} {W : Wb} {Cc : Int → Bool} {k : Int} {X rk ct : Int → Int} (e : Ex H H') (h : PlQ K C H q W Cc k X rk ct) : PlQ K C H' q W Cc k X rk ct := by
  obtain ⟨dx, r, p, B, h⟩ := h
  exact ⟨dx, r, p, B, h.mono e⟩
theorem spv_look {K : Frag} {H : Hp} {q C dx r p : Addr} {W : Wb} {Cc : Int → Bool} {k : Int} {X rk ct : Int → Int} {B : PA'} {v a : Int} (c : PlC K C) (h : PlAt K H q C dx r p W Cc k X rk ct B) (h0 : 0 ≤ v) (h1 : v < W.n) (h2 : 0 ≤ a) (h3 : a ≤ k) : SpV (sp_Plan_look K) [.ref q, .int v, .int a] H .non :=
  fun H1 e Q qq E => ⟨q, C, dx, r, p, W, Cc, k, X, rk, ct, B, v, a, rfl, c, h.mono e, h0, h1, h2, h3, fun H2 e2 => qq H2 e2⟩
theorem spl_raised {K : Frag} {H : Hp} {r q : Addr} {t : Int} {n : Nat} {X rk : Int → Int} (hr : SqA K H r (rowV n X)) (hq : SqA K H q (rowV n rk)) (hn : n ≤ 60) : SpL (sp_raised_row K) [.ref r, .ref q, .int t] H (rowV n (up1 X fun w => decide (t ≤ rk w))) :=
  fun H1 e Q qq E => ⟨r, q, t, n, X, rk, rfl, hr.mono e, hq.mono e, hn, fun p H2 hp e2 h2 => qq p H2 hp e2 h2⟩
theorem spl_lessened {K : Frag} {H : Hp} {r q : Addr} {t : Int} {n : Nat} {X rk : Int → Int} (hr : SqA K H r (rowV n X)) (hq : SqA K H q (rowV n rk)) (hn : n ≤ 60) : SpL (sp_lessened_row K) [.ref r, .ref q, .int t] H (rowV n (dn1 X fun w => decide (t ≤ rk w))) :=
  fun H1 e Q qq E => ⟨r, q, t, n, X, rk, rfl, hr.mono e, hq.mono e, hn, fun p H2 hp e2 h2 => qq p H2 hp e2 h2⟩
/-- or none, or a pair -/
def RetPN (K : Frag) (c : Prop) (b s : Int) (H : Hp) (Q : VK) : Prop := (c → ∀ H', Ex H H' → Q .non H') ∧ (¬ c → RetP K b s H Q)
def sp_CallFirst_falls (K : Frag) : Sp := fun vs H Q _ => ∃ q W Cc k X rk ct v a, vs = [.ref q, .int v, .int a] ∧ PlQ K (g1 K) H q W Cc k X rk ct ∧ 0 ≤ v ∧ v < W.n ∧ 0 ≤ a ∧ a ≤ k ∧ RetPN K (a - X v < 0) (k - (a - X v)) (rk v) H Q
/-! CallFirst.falls -/
abbrev N_CallFirst_falls : List Str := ["self", "stand", "purse", "spare"]
abbrev s_CallFirst_falls : Stmt := inClass (top 73) 3
theorem sc_CallFirst_falls : FnScope N_CallFirst_falls ["self", "stand", "purse"] (defScope s_CallFirst_falls) := ⟨rfl, rfl, rfl, by decide +kernel, rfl, by decide +kernel, by decide +kernel⟩
def t_CallFirst_falls (K : Frag) : TS := (tSeq (tDrop (tMethR (g1 K) "look" (sp_Plan_look K) E0 (tVar 0) (tCons (tVar 1) (tCons (tVar 2) tNil))))
    (tSeq (tAsg (tOp rSub (tVar 2) (tOp (rIx K) (tFld K (tVar 0) "_row") (tVar 1))) (gName 3))
    (tSeq (tIfS (tTest (tOp rLt (tVar 3) (tC (.int 0)))) (tRet (tC .non)) tNext)
    (tRet (tTup (tCons (tOp rSub (tFld K (tVar 0) "_chips") (tVar 3)) (tCons (tOp (rIx K) (tPP_ranks K (tFld K (tVar 0) "_paper")) (tVar 1)) tNil)))))))
section
variable {w : World} {K : Frag} {mg : Str → Option Value} {vs : List V} {H : Hp} {Q : VK} {E : XK}
theorem len_CallFirst_falls (h : sp_CallFirst_falls K vs H Q E) : vs.length = 3 := by obtain ⟨q, W, Cc, k, X, rk, ct, v, a, rfl, _⟩ := h; rfl
theorem pure_CallFirst_falls (T : Txt w K mg) (h : sp_CallFirst_falls K vs H Q E) : t_CallFirst_falls K (E1 Q) (start N_CallFirst_falls vs) H := by
  obtain ⟨q, W, Cc, k, X, rk, ct, v, a, rfl, ⟨dx, r, p, B, hp⟩, h0, h1, h2, h3, kN, kP⟩ := h
  have c := T.pl1
  refine q_drop (ev_methR (ev_var rfl) hp.at_ rfl (ea_cons (ev_var rfl) (ea_cons (ev_var rfl) ea_nil)) (spv_look c hp h0 h1 h2 h3)) fun H1 e1 => ?_
  have hp1 := hp.mono e1
  refine q_asg (ev_I (ev_var rfl) (ev_ixR (ev_Qrow (ev_var rfl) hp1 c.cls c.nr) (ev_var rfl) (.t hp1.row) h0 h1)) fun H2 e2 => ?_
  have hp2 := hp1.mono e2
  refine q_when (et_test (ev_I (ev_var rfl) ev_c)) (fun hb H3 e3 => s_ret ev_c fun H4 e4 => kN (of_decide_eq_true hb) H4 ((e1.trans e2).trans (e3.trans e4))) fun hb H3 e3 => ?_
  have hp3 := hp2.mono e3
  refine s_retX (EvU.toX (eu_tup (vs := [.int (k - (a - X v)), .int (rk v)]) (ea_cons (ev_I (ev_Qchips (ev_var rfl) hp3 c.cls c.nk) (ev_var rfl)) (ea_cons (ev_ixR (ev_Pranks (ev_Qpaper (ev_var rfl) hp3 c.cls c.np) hp3.pap) (ev_var rfl) (.t hp3.pap.h1) h0 h1) ea_nil)) (by show 2 ≤ 100000; decide))) fun y H4 e4 ⟨pp, ey, hpp⟩ => ?_
  subst ey
  exact kP (of_decide_eq_false hb) pp H4 ((e1.trans e2).trans (e3.trans e4)) (st_of hpp)
end
theorem d_CallFirst_falls {w : World} {K : Frag} {mg : Str → Option Value} {base : Heap} (T : Txt w K mg) {f : Addr} {cdv : Value} {A : Around} {outer : List Env} {s : Shared} {H : Hp} {E : XK} (hr : Room 5 (A.deeper (envOfC "CallFirst.falls" (defScope s_CallFirst_falls) s.heap.objs.size f cdv))) :
    PSs (cxOf CX0 PP w K mg base N_CallFirst_falls "CallFirst.falls" (defScope s_CallFirst_falls) f cdv A outer s H E).nox (defBody s_CallFirst_falls) (t_CallFirst_falls K) := by
  exact (pss_cons (ps_expr (pe_methN (pv 0) T.c1 (T.m1 (memOf 3 rfl)).1 (ok_look1 T) hr (by decide) (pa_cons (pv 1) (pa_cons (pv 2) pa_nil))))
    (pss_cons (ps_set (i := 3) sc_CallFirst_falls.nd rfl (Or.inl rfl) (pe_op op_sub (pv 2) (pe_ix ix_seq (pe_fld (pv 0) rfl) (pv 1) (fun _ _ => rfl))))
    (pss_cons (ps_if (pt_cmpR op_lt (pv 3) pe_int (nomark _)) (pss_one (ps_ret pe_non)) pss_nil)
    (pss_one (ps_ret (pe_tup (pa_cons (pe_op op_sub (pe_fld (pv 0) rfl) (pv 3)) (pa_cons (pe_ix ix_seq (pe_P_ranks T (pe_fld (pv 0) rfl) hr (by decide)) (pv 1) (fun _ _ => rfl)) pa_nil))))))))
theorem ok_CallFirst_falls {w : World} {K : Frag} {mg : Str → Option Value} {base : Heap} (T : Txt w K mg) : FnR PP w K mg base CX0 6 (He.ma K (g1 K) "falls") (sp_CallFirst_falls K) := by
  have F := T.def_ (d := xm_CallFirst_falls) (memOf 64 rfl) rfl
  exact fnr_mk (k := 5) F sc_CallFirst_falls (fun _ _ _ _ _ _ us hl => match us, hl with | [_, _, _], _ => rfl) (fun vs H Q E h => len_CallFirst_falls h) (fun cdv A outer s H vs Q E hr h => ⟨t_CallFirst_falls K, d_CallFirst_falls T hr, pure_CallFirst_falls T h⟩)
def sp_CallSecond_falls (K : Frag) : Sp := fun vs H Q _ => ∃ q W Cc k X rk ct v a, vs = [.ref q, .int v, .int a] ∧ PlQ K (g2 K) H q W Cc k X rk ct ∧ 0 ≤ v ∧ v < W.n ∧ 0 ≤ a ∧ a ≤ k ∧ RetPN K (X v - 1 - a < 0) (k - (X v - 1 - a)) (ct v) H Q
/-! CallSecond.falls -/
abbrev N_CallSecond_falls : List Str := ["self", "stand", "purse", "spare"]
abbrev s_CallSecond_falls : Stmt := inClass (top 74) 3
theorem sc_CallSecond_falls : FnScope N_CallSecond_falls ["self", "stand", "purse"] (defScope s_CallSecond_falls) := ⟨rfl, rfl, rfl, by decide +kernel, rfl, by decide +kernel, by decide +kernel⟩
def t_CallSecond_falls (K : Frag) : TS := (tSeq (tDrop (tMethR (g2 K) "look" (sp_Plan_look K) E0 (tVar 0) (tCons (tVar 1) (tCons (tVar 2) tNil))))
    (tSeq (tAsg (tOp rSub (tOp rSub (tOp (rIx K) (tFld K (tVar 0) "_row") (tVar 1)) (tC (.int 1))) (tVar 2)) (gName 3))
    (tSeq (tIfS (tTest (tOp rLt (tVar 3) (tC (.int 0)))) (tRet (tC .non)) tNext)
    (tRet (tTup (tCons (tOp rSub (tFld K (tVar 0) "_chips") (tVar 3)) (tCons (tOp (rIx K) (tPP_counts K (tFld K (tVar 0) "_paper")) (tVar 1)) tNil)))))))
section
variable {w : World} {K : Frag} {mg : Str → Option Value} {vs : List V} {H : Hp} {Q : VK} {E : XK}
theorem len_CallSecond_falls (h : sp_CallSecond_falls K vs H Q E) : vs.length = 3 := by obtain ⟨q, W, Cc, k, X, rk, ct, v, a, rfl, _⟩ := h; rfl
theorem pure_CallSecond_falls (T : Txt w K mg) (h : sp_CallSecond_falls K vs H Q E) : t_CallSecond_falls K (E1 Q) (start N_CallSecond_falls vs) H := by
  obtain ⟨q, W, Cc, k, X, rk, ct, v, a, rfl, ⟨dx, r, p, B, hp⟩, h0, h1, h2, h3, kN, kP⟩ := h
  have c := T.pl2
  refine q_drop (ev_methR (ev_var rfl) hp.at_ rfl (ea_cons (ev_var rfl) (ea_cons (ev_var rfl) ea_nil)) (spv_look c hp h0 h1 h2 h3)) fun H1 e1 => ?_
  have hp1 := hp.mono e1
  refine q_asg (ev_I (ev_I (ev_ixR (ev_Qrow (ev_var rfl) hp1 c.cls c.nr) (ev_var rfl) (.t hp1.row) h0 h1) ev_c) (ev_var rfl)) fun H2 e2 => ?_
  have hp2 := hp1.mono e2
  refine q_when (et_test (ev_I (ev_var rfl) ev_c)) (fun hb H3 e3 => s_ret ev_c fun H4 e4 => kN (of_decide_eq_true hb) H4 ((e1.trans e2).trans (e3.trans e4))) fun hb H3 e3 => ?_
  have hp3 := hp2.mono e3
  refine s_retX (EvU.toX (eu_tup (vs := [.int (k - (X v - 1 - a)), .int (ct v)]) (ea_cons (ev_I (ev_Qchips (ev_var rfl) hp3 c.cls c.nk) (ev_var rfl)) (ea_cons (ev_ixR (ev_Pcounts (ev_Qpaper (ev_var rfl) hp3 c.cls c.np) hp3.pap) (ev_var rfl) (.t hp3.pap.h2) h0 h1) ea_nil)) (by show 2 ≤ 100000; decide))) fun y H4 e4 ⟨pp, ey, hpp⟩ => ?_
  subst ey
  exact kP (of_decide_eq_false hb) pp H4 ((e1.trans e2).trans (e3.trans e4)) (st_of hpp)
end
theorem d_CallSecond_falls {w : World} {K : Frag} {mg : Str → Option Value} {base : Heap} (T : Txt w K mg) {f : Addr} {cdv : Value} {A : Around} {outer : List Env} {s : Shared} {H : Hp} {E : XK} (hr : Room 5 (A.deeper (envOfC "CallSecond.falls" (defScope s_CallSecond_falls) s.heap.objs.size f cdv))) :
    PSs (cxOf CX0 PP w K mg base N_CallSecond_falls "CallSecond.falls" (defScope s_CallSecond_falls) f cdv A outer s H E).nox (defBody s_CallSecond_falls) (t_CallSecond_falls K) := by
  exact (pss_cons (ps_expr (pe_methN (pv 0) T.c2 (T.m2 (memOf 3 rfl)).1 (ok_look2 T) hr (by decide) (pa_cons (pv 1) (pa_cons (pv 2) pa_nil))))
    (pss_cons (ps_set (i := 3) sc_CallSecond_falls.nd rfl (Or.inl rfl) (pe_op op_sub (pe_op op_sub (pe_ix ix_seq (pe_fld (pv 0) rfl) (pv 1) (fun _ _ => rfl)) pe_int) (pv 2)))
    (pss_cons (ps_if (pt_cmpR op_lt (pv 3) pe_int (nomark _)) (pss_one (ps_ret pe_non)) pss_nil)
    (pss_one (ps_ret (pe_tup (pa_cons (pe_op op_sub (pe_fld (pv 0) rfl) (pv 3)) (pa_cons (pe_ix ix_seq (pe_P_counts T (pe_fld (pv 0) rfl) hr (by decide)) (pv 1) (fun _ _ => rfl)) pa_nil))))))))
theorem ok_CallSecond_falls {w : World} {K : Frag} {mg : Str → Option Value} {base : Heap} (T : Txt w K mg) : FnR PP w K mg base CX0 6 (He.ma K (g2 K) "falls") (sp_CallSecond_falls K) := by
  have F := T.def_ (d := xm_CallSecond_falls) (memOf 68 rfl) rfl
  exact fnr_mk (k := 5) F sc_CallSecond_falls (fun _ _ _ _ _ _ us hl => match us, hl with | [_, _, _], _ => rfl) (fun vs H Q E h => len_CallSecond_falls h) (fun cdv A outer s H vs Q E hr h => ⟨t_CallSecond_falls K, d_CallSecond_falls T hr, pure_CallSecond_falls T h⟩)
/-- max of a row -/
def maxR (W : Wb) (f : Int → Int) : Int := maxOf ((ran W.n).map f)
theorem maxR_le {W : Wb} {f : Int → Int} {v : Int} (h0 : 0 ≤ v) (h1 : v < W.n) : f v ≤ maxR W f := le_maxOf (List.mem_map_of_mem (mem_ran.mpr ⟨h0, h1⟩))
theorem ran_cons {n : Nat} (h : 0 < n) : ∃ a l, ran n = a :: l := by
  cases e : ran n with
  | nil =>
    have := ran_len n
    rw [e] at this
    simp at this
    omega
  | cons a l => exact ⟨a, l, rfl⟩
theorem ev_maxR {K : Frag} {σ : L2.St} {H : Hp} {ta : TE} {p : Addr} {W : Wb} {f : Int → Int} (ha : Ev ta σ H (.ref p)) (hs : SqT K H p (rowV W.n f)) (hn : 0 < W.n) : Ev (tCB (rMaxA K) (tCons ta tNil)) σ H (.int (maxR W f)) := fun H1 e Q q =>
  ha H1 e _ fun H2 e2 => by
    obtain ⟨x, l, hl⟩ := ran_cons hn
    refine ⟨p, f x, l.map f, rfl, .inr ?_, ?_⟩
    · have h2 := ex_t (e.trans e2) hs
      rw [rowV_int, hl] at h2
      exact h2
    · have : (l.map f).foldl max (f x) = maxR W f := by
        unfold maxR
        rw [hl]
        rfl
      rw [this]
      exact q H2 e2
def sp_CallFirst_due_by (K : Frag) : Sp := fun vs H Q _ => ∃ q W Cc k X rk ct t, vs = [.ref q, .int t] ∧ PlQ K (g1 K) H q W Cc k X rk ct ∧ 1 ≤ t ∧ (0 ≤ maxR W rk ∧ maxR W rk ≤ 1000) ∧ RetV (.int ((maxR W rk + 1) * t + maxR W rk * k)) H Q
/-! CallFirst.due_by -/
abbrev N_CallFirst_due_by : List Str := ["self", "times", "most"]
abbrev s_CallFirst_due_by : Stmt := inClass (top 73) 2
theorem sc_CallFirst_due_by : FnScope N_CallFirst_due_by ["self", "times"] (defScope s_CallFirst_due_by) := ⟨rfl, rfl, rfl, by decide +kernel, rfl, by decide +kernel, by decide +kernel⟩
def t_CallFirst_due_by (K : Frag) : TS := (tSeq (tDrop (tFn (sp_need_integer K) (tCons (tVar 1) (tCons (tC (.str "the number of visits")) tNil))))
    (tSeq (tDrop (tFn (sp_need_from K) (tCons (tVar 1) (tCons (tC (.int 1)) (tCons (tC (.str "the number of visits")) tNil)))))
    (tSeq (tAsg (tCB (rMaxA K) (tCons (tPP_ranks K (tFld K (tVar 0) "_paper")) tNil)) (gName 2))
    (tRet (tOp rAdd (tOp rMul (tOp rAdd (tVar 2) (tC (.int 1))) (tVar 1)) (tOp rMul (tVar 2) (tFld K (tVar 0) "_chips")))))))
section
variable {w : World} {K : Frag} {mg : Str → Option Value} {vs : List V} {H : Hp} {Q : VK} {E : XK}
theorem len_CallFirst_due_by (h : sp_CallFirst_due_by K vs H Q E) : vs.length = 2 := by obtain ⟨q, W, Cc, k, X, rk, ct, t, rfl, _⟩ := h; rfl
theorem pure_CallFirst_due_by (T : Txt w K mg) (h : sp_CallFirst_due_by K vs H Q E) : t_CallFirst_due_by K (E1 Q) (start N_CallFirst_due_by vs) H := by
  obtain ⟨q, W, Cc, k, X, rk, ct, t, rfl, ⟨dx, r, p, B, hp⟩, ht, hm, kk⟩ := h
  have c := T.pl1
  refine q_drop (ev_fn (ea_cons (ev_var rfl) (ea_cons ev_c ea_nil)) spv_need_integer) fun H1 e1 => ?_
  refine q_drop (ev_fn (ea_cons (ev_var rfl) (ea_cons ev_c (ea_cons ev_c ea_nil))) (spv_need_from ht)) fun H2 e2 => ?_
  have hp2 := hp.mono (e1.trans e2)
  refine q_asg (ev_maxR (ev_Pranks (ev_Qpaper (ev_var rfl) hp2 c.cls c.np) hp2.pap) hp2.pap.h1 hp2.pap.web.ok.pos) fun H3 e3 => ?_
  have hp3 := hp2.mono e3
  refine s_ret (ev_I (ev_Ic (ev_I (ev_var rfl) ev_c) (ev_var rfl) ?_) (ev_Ic (ev_var rfl) (ev_Qchips (ev_var rfl) hp3 c.cls c.nk) ?_)) fun H4 e4 => kk H4 ((e1.trans e2).trans (e3.trans e4))
  · unfold CMul; omega
  · unfold CMul; omega
end
theorem d_CallFirst_due_by {w : World} {K : Frag} {mg : Str → Option Value} {base : Heap} (T : Txt w K mg) {f : Addr} {cdv : Value} {A : Around} {outer : List Env} {s : Shared} {H : Hp} {E : XK} (hr : Room 2 (A.deeper (envOfC "CallFirst.due_by" (defScope s_CallFirst_due_by) s.heap.objs.size f cdv))) :
    PSs (cxOf CX0 PP w K mg base N_CallFirst_due_by "CallFirst.due_by" (defScope s_CallFirst_due_by) f cdv A outer s H E).nox (defBody s_CallFirst_due_by) (t_CallFirst_due_by K) := by
  exact (pss_cons (ps_expr (pe_f (ok_need_integer T) hr (by decide) (by rfl) (pa_cons (pv 1) (pa_cons pe_str pa_nil))))
    (pss_cons (ps_expr (pe_f (ok_need_from T) hr (by decide) (by rfl) (pa_cons (pv 1) (pa_cons pe_int (pa_cons pe_str pa_nil)))))
    (pss_cons (ps_set (i := 2) sc_CallFirst_due_by.nd rfl (Or.inl rfl) (pe_callB (call_maxA rfl hr.units) (by rfl) (T.free (memOf 3 rfl)) b_max (pa_cons (pe_P_ranks T (pe_fld (pv 0) rfl) hr (by decide)) pa_nil)))
    (pss_one (ps_ret (pe_op op_add (pe_op op_mul (pe_op op_add (pv 2) pe_int) (pv 1)) (pe_op op_mul (pv 2) (pe_fld (pv 0) rfl))))))))
theorem ok_CallFirst_due_by {w : World} {K : Frag} {mg : Str → Option Value} {base : Heap} (T : Txt w K mg) : FnR PP w K mg base CX0 3 (He.ma K (g1 K) "due_by") (sp_CallFirst_due_by K) := by
  have F := T.def_ (d := xm_CallFirst_due_by) (memOf 63 rfl) rfl
  exact fnr_mk (k := 2) F sc_CallFirst_due_by (fun _ _ _ _ _ _ us hl => match us, hl with | [_, _], _ => rfl) (fun vs H Q E h => len_CallFirst_due_by h) (fun cdv A outer s H vs Q E hr h => ⟨t_CallFirst_due_by K, d_CallFirst_due_by T hr, pure_CallFirst_due_by T h⟩)
def sp_CallSecond_visits_at_most (K : Frag) : Sp := fun vs H Q _ => ∃ q W Cc k X rk ct, vs = [.ref q] ∧ PlQ K (g2 K) H q W Cc k X rk ct ∧ (0 ≤ maxR W ct ∧ maxR W ct ≤ 1000) ∧ RetV (.int (maxR W ct * (k + 1))) H Q
/-! CallSecond.visits_at_most -/
abbrev N_CallSecond_visits_at_most : List Str := ["self"]
abbrev s_CallSecond_visits_at_most : Stmt := inClass (top 74) 2
theorem sc_CallSecond_visits_at_most : FnScope N_CallSecond_visits_at_most ["self"] (defScope s_CallSecond_visits_at_most) := ⟨rfl, rfl, rfl, by decide +kernel, rfl, by decide +kernel, by decide +kernel⟩
def t_CallSecond_visits_at_most (K : Frag) : TS := (tRet (tOp rMul (tCB (rMaxA K) (tCons (tPP_counts K (tFld K (tVar 0) "_paper")) tNil)) (tOp rAdd (tFld K (tVar 0) "_chips") (tC (.int 1)))))
section
variable {w : World} {K : Frag} {mg : Str → Option Value} {vs : List V} {H : Hp} {Q : VK} {E : XK}
theorem len_CallSecond_visits_at_most (h : sp_CallSecond_visits_at_most K vs H Q E) : vs.length = 1 := by obtain ⟨q, W, Cc, k, X, rk, ct, rfl, _⟩ := h; rfl
theorem pure_CallSecond_visits_at_most (T : Txt w K mg) (h : sp_CallSecond_visits_at_most K vs H Q E) : t_CallSecond_visits_at_most K (E1 Q) (start N_CallSecond_visits_at_most vs) H := by
  obtain ⟨q, W, Cc, k, X, rk, ct, rfl, ⟨dx, r, p, B, hp⟩, hm, kk⟩ := h
  have c := T.pl2
  refine s_ret (ev_Ic (ev_maxR (ev_Pcounts (ev_Qpaper (ev_var rfl) hp c.cls c.np) hp.pap) hp.pap.h2 hp.pap.web.ok.pos) (ev_I (ev_Qchips (ev_var rfl) hp c.cls c.nk) ev_c) ?_) fun H4 e4 => kk H4 e4
  unfold CMul; omega
end
theorem d_CallSecond_visits_at_most {w : World} {K : Frag} {mg : Str → Option Value} {base : Heap} (T : Txt w K mg) {f : Addr} {cdv : Value} {A : Around} {outer : List Env} {s : Shared} {H : Hp} {E : XK} (hr : Room 2 (A.deeper (envOfC "CallSecond.visits_at_most" (defScope s_CallSecond_visits_at_most) s.heap.objs.size f cdv))) :
    PSs (cxOf CX0 PP w K mg base N_CallSecond_visits_at_most "CallSecond.visits_at_most" (defScope s_CallSecond_visits_at_most) f cdv A outer s H E).nox (defBody s_CallSecond_visits_at_most) (t_CallSecond_visits_at_most K) := by
  exact (pss_one (ps_ret (pe_op op_mul (pe_callB (call_maxA rfl hr.units) (by rfl) (T.free (memOf 3 rfl)) b_max (pa_cons (pe_P_counts T (pe_fld (pv 0) rfl) hr (by decide)) pa_nil)) (pe_op op_add (pe_fld (pv 0) rfl) pe_int))))
theorem ok_CallSecond_visits_at_most {w : World} {K : Frag} {mg : Str → Option Value} {base : Heap} (T : Txt w K mg) : FnR PP w K mg base CX0 3 (He.ma K (g2 K) "visits_at_most") (sp_CallSecond_visits_at_most K) := by
  have F := T.def_ (d := xm_CallSecond_visits_at_most) (memOf 67 rfl) rfl
  exact fnr_mk (k := 2) F sc_CallSecond_visits_at_most (fun _ _ _ _ _ _ us hl => match us, hl with | [_], _ => rfl) (fun vs H Q E h => len_CallSecond_visits_at_most h) (fun cdv A outer s H vs Q E hr h => ⟨t_CallSecond_visits_at_most K, d_CallSecond_visits_at_most T hr, pure_CallSecond_visits_at_most T h⟩)
def sp_CallFirst___call__ (K : Frag) : Sp := fun vs H Q _ => ∃ q W Cc k X rk ct v a, vs = [.ref q, .int v, .int a] ∧ PlQ K (g1 K) H q W Cc k X rk ct ∧ 0 ≤ v ∧ v < W.n ∧ W.mov v = true ∧ 0 ≤ a ∧ a ≤ k ∧ RetP K (fBid W Cc X rk v a) (fStep W Cc X rk v a) H Q
/-! CallFirst.__call__ -/
abbrev N_CallFirst___call__ : List Str := ["self", "stand", "purse", "spare", "rank", "steps", "called", "bid", "step", "raised", "least", "lowest", "below", "x", "w"]
abbrev s_CallFirst___call__ : Stmt := inClass (top 73) 1
theorem sc_CallFirst___call__ : FnScope N_CallFirst___call__ ["self", "stand", "purse"] (defScope s_CallFirst___call__) := ⟨rfl, rfl, rfl, by decide +kernel, rfl, by decide +kernel, by decide +kernel⟩
def t_CallFirst___call__ (K : Frag) : TS := (tSeq (tDrop (tMethR (g1 K) "look" (sp_Plan_look K) E0 (tVar 0) (tCons (tVar 1) (tCons (tVar 2) tNil))))
    (tSeq (tDrop (tFn (sp_need_moving K) (tCons (tFld K (tVar 0) "_web") (tCons (tVar 1) tNil))))
    (tSeq (tAsg (tOp rSub (tVar 2) (tOp (rIx K) (tFld K (tVar 0) "_row") (tVar 1))) (gName 3))
    (tSeq (tAsg (tOp (rIx K) (tPP_ranks K (tFld K (tVar 0) "_paper")) (tVar 1)) (gName 4))
    (tSeq (tAsg (tOp (rIx K) (tPW_first K (tFld K (tVar 0) "_web")) (tVar 1)) (gName 5))
    (tSeq (tAsg (tOp (rIn K false) (tVar 1) (tPP_calls K (tFld K (tVar 0) "_paper"))) (gName 6))
    (tSeq (tIfS (tOr (tTest (tOp rLt (tVar 3) (tC (.int 0)))) (tAnd (tTest (tOp rEq (tVar 4) (tC (.int 0)))) (tNot (tB (tVar 6))))) (tRet (tTup (tCons (tC (.int 0)) (tCons (tOp (rIx K) (tVar 5) (tC (.int 0))) tNil)))) tNext)
    (tSeq (tIfS (tB (tVar 6)) (tSeq (tAsg (tFn (sp_told_first K) (tCons (tFld K (tVar 0) "_web") (tCons (tLc (iSeq K (tFld K (tVar 0) "_row")) (gName 13) tYes (tOp rAdd (tVar 13) (tVar 3)) [13]) (tCons (tVar 1) (tCons (tVar 2) tNil))))) (gTup K 2 (gCons (gName 7) (gCons (gName 8) gNil))))
    (tRet (tTup (tCons (tCB rMin2' (tCons (tVar 7) (tCons (tVar 2) tNil))) (tCons (tVar 8) tNil))))) tNext)
    (tSeq (tAsg (tFn (sp_raised_row K) (tCons (tFld K (tVar 0) "_row") (tCons (tPP_ranks K (tFld K (tVar 0) "_paper")) (tCons (tVar 4) tNil)))) (gName 9))
    (tSeq (tAsg (tOp (rIx K) (tFn (sp_told_first K) (tCons (tFld K (tVar 0) "_web") (tCons (tLc (iSeq K (tVar 9)) (gName 13) tYes (tOp rAdd (tVar 13) (tVar 3)) [13]) (tCons (tVar 1) (tCons (tVar 2) tNil))))) (tC (.int 0))) (gName 7))
    (tSeq (tAsg (tCB (rMin K) (tCons (tLc (iSeq K (tVar 5)) (gName 14) tYes (tOp (rIx K) (tFld K (tVar 0) "_row") (tVar 14)) [14]) tNil)) (gName 10))
    (tSeq (tAsg (tLc (iSeq K (tVar 5)) (gName 14) (tTest (tOp rEq (tOp (rIx K) (tFld K (tVar 0) "_row") (tVar 14)) (tVar 10))) (tVar 14) [14]) (gName 11))
    (tSeq (tAsg (tLc (iSeq K (tVar 11)) (gName 14) (tTest (tOp rLt (tOp (rIx K) (tPP_ranks K (tFld K (tVar 0) "_paper")) (tVar 14)) (tVar 4))) (tVar 14) [14]) (gName 12))
    (tRet (tTup (tCons (tCB rMin2' (tCons (tVar 7) (tCons (tVar 2) tNil))) (tCons (tIf (tTru K (tVar 12)) (tCB (rMin K) (tCons (tVar 12) tNil)) (tCB (rMin K) (tCons (tVar 11) tNil))) tNil)))))))))))))))))
section
variable {w : World} {K : Frag} {mg : Str → Option Value} {vs : List V} {H : Hp} {Q : VK} {E : XK}
theorem len_CallFirst___call__ (h : sp_CallFirst___call__ K vs H Q E) : vs.length = 3 := by obtain ⟨q, W, Cc, k, X, rk, ct, v, a, rfl, _⟩ := h; rfl
theorem pure_CallFirst___call__ (T : Txt w K mg) (h : sp_CallFirst___call__ K vs H Q E) : t_CallFirst___call__ K (E1 Q) (start N_CallFirst___call__ vs) H := by
  obtain ⟨q, W, Cc, k, X, rk, ct, v, a, rfl, ⟨dx, r, p, B, hp⟩, h0, h1, hm, h2, h3, kk⟩ := h
  have c := T.pl1
  have hn := hp.pap.web.n60
  have ok := hp.pap.web.ok
  have hfl := hp.pap.web.ff v h0 h1
  refine q_drop (ev_methR (ev_var rfl) hp.at_ rfl (ea_cons (ev_var rfl) (ea_cons (ev_var rfl) ea_nil)) (spv_look c hp h0 h1 h2 h3)) fun H1 e1 => ?_
  have hp1 := hp.mono e1
  refine q_drop (ev_fn (ea_cons (ev_Qweb (ev_var rfl) hp1 c.cls c.nw) (ea_cons (ev_var rfl) ea_nil)) (spv_need_moving hp1.pap.web h0 h1 hm)) fun H2 e2 => ?_
  have hp2 := hp1.mono e2
  refine q_asg (ev_I (ev_var rfl) (ev_ixR (ev_Qrow (ev_var rfl) hp2 c.cls c.nr) (ev_var rfl) (.t hp2.row) h0 h1)) fun H3 e3 => ?_
  have hp3 := hp2.mono e3
  refine q_asg (ev_ixR (ev_Pranks (ev_Qpaper (ev_var rfl) hp3 c.cls c.np) hp3.pap) (ev_var rfl) (.t hp3.pap.h1) h0 h1) fun H4 e4 => ?_
  have hp4 := hp3.mono e4
  refine q_asg (ev_Wff (ev_Qweb (ev_var rfl) hp4 c.cls c.nw) hp4.pap.web (ev_var rfl) h0 h1) fun H5 e5 => ?_
  have hp5 := hp4.mono e5
  refine q_asg (ev_inC (ev_var rfl) (ev_Pcalls (ev_Qpaper (ev_var rfl) hp5 c.cls c.np) hp5.pap) hp5.pap.hc) fun H6 e6 => ?_
  have hp6 := hp5.mono e6
  have e06 := ((e1.trans e2).trans (e3.trans e4)).trans (e5.trans e6)
  refine q_when (et_or (et_test (ev_I (ev_var rfl) ev_c)) fun _ => et_and (et_test (ev_eqI (ev_var rfl) ev_c)) fun _ => et_not (et_B (ev_var rfl))) (fun hb H7 e7 => ?_) fun hb H7 e7 => ?_
  · have hid : fIdle Cc X rk v a := by unfold fIdle; simpa using hb
    have hp7 := hp6.mono e7
    have hs0 : Ev (tOp (rIx K) (tVar 5) (tC (.int 0))) [some (.ref q), some (.int v), some (.int a), some (.int (a - X v)), some (.int (rk v)), some (.ref (B.A.ff v)), some (.bl (Cc v)), none, none, none, none, none, none, none, none] H7 (.int (minOf (W.F v))) := by
      have hl : 0 < (W.F v).length := List.length_pos_iff.mpr (mov_ne hm)
      rw [← head_min hfl.2.2 (mov_ne hm)]
      exact ev_ixI (ev_var rfl) ev_c (hp7.pap.web.ff v h0 h1).1 (by omega) (by omega)
    refine s_retX (EvU.toX (eu_tup (vs := [.int 0, .int (minOf (W.F v))]) (ea_cons ev_c (ea_cons hs0 ea_nil)) (by show 2 ≤ 100000; decide))) fun y H8 e8 ⟨pp, ey, hpp⟩ => ?_
    subst ey
    refine kk pp H8 (e06.trans (e7.trans e8)) ?_
    unfold fBid fStep
    rw [if_pos hid, if_pos hid]
    exact st_of hpp
  · have hid : ¬ fIdle Cc X rk v a := by
      unfold fIdle
      intro z
      have : (decide (a - X v < 0) || decide (rk v = 0) && !Cc v) = true := by simpa using z
      rw [this] at hb
      cases hb
    have hp7 := hp6.mono e7
    refine q_when (et_B (ev_var rfl)) (fun hc H8 e8 => ?_) fun hc H8 e8 => ?_
    · have hp8 := hp7.mono e8
      refine q_pair (K := K) (P := fun _ _ => True) (a := .int (toldB1 W (fun w => X w + (a - X v)) v a)) (b := .int (toldS1 W (fun w => X w + (a - X v)) v)) (evx_fnX (ea_1 (ev_Qweb (ev_var rfl) hp8 c.cls c.nw) (ea_X (K := K) (PA := fun _ _ => True) (el_lcR (g := fun w => X w + (a - X v)) (ea_of (ev_Qrow (ev_var rfl) hp8 c.cls c.nr) (.t hp8.row)) (by omega) (fun _ => rfl) (fun w H9 e9 _ _ => ev_I (ev_var rfl) (ev_var rfl))) fun H9 e9 => ea_cons (ev_var rfl) (ea_cons (ev_var rfl) ea_nil)))
        fun vs H9 e9 ⟨us, ev, p9, eu, hp9⟩ => ?_) fun H9 e9 => ?_
      · subst ev
        subst eu
        exact spx_told_first (hp8.pap.web.mono e9) (.l hp9) h0 h1 hm
      · refine s_retX (EvU.toX (eu_tup (vs := [.int (min (toldB1 W (fun w => X w + (a - X v)) v a) a), .int (toldS1 W (fun w => X w + (a - X v)) v)]) (ea_cons (ev_mn (ev_var rfl) (ev_var rfl)) (ea_cons (ev_var rfl) ea_nil)) (by show 2 ≤ 100000; decide))) fun y H10 e10 ⟨pp, ey, hpp⟩ => ?_
        subst ey
        refine kk pp H10 (e06.trans (e7.trans (e8.trans (e9.trans e10)))) ?_
        unfold fBid fStep
        rw [if_neg hid, if_neg hid, if_pos hc, if_pos hc]
        exact st_of hpp
    · have hp8 := hp7.mono e8
      refine q_asgL (el_fn (ea_cons (ev_Qrow (ev_var rfl) hp8 c.cls c.nr) (ea_cons (ev_Pranks (ev_Qpaper (ev_var rfl) hp8 c.cls c.np) hp8.pap) (ea_cons (ev_var rfl) ea_nil))) (spl_raised (.t hp8.row) (.t hp8.pap.h1) hn)) fun p9 H9 n9 e9 h9 => ?_
      have hp9 := hp8.mono e9
      refine q_asg (v := .int (toldB1 W (fun w => rFst X rk v w + (a - X v)) v a)) (evx_ev (evx_ix (evx_fnX (P := fun y H' => ∃ p, y = .ref p ∧ SqT K H' p [.int (toldB1 W (fun w => rFst X rk v w + (a - X v)) v a), .int (toldS1 W (fun w => rFst X rk v w + (a - X v)) v)]) (ea_1 (ev_Qweb (ev_var rfl) hp9 c.cls c.nw) (ea_X (K := K) (PA := fun _ _ => True) (el_lcR (f := rFst X rk v) (g := fun w => rFst X rk v w + (a - X v)) (ea_of (ev_var rfl) (.lst h9)) (by omega) (fun _ => rfl) (fun w H10 e10 _ _ => ev_I (ev_var rfl) (ev_var rfl))) fun H10 e10 => ea_cons (ev_var rfl) (ea_cons (ev_var rfl) ea_nil)))
        fun vs H10 e10 ⟨us, ev, p10, eu, hp10⟩ => ?_) fun y H10 e10 ⟨p10, ey, h10⟩ => ⟨p10, _, _, ey, .t h10, rfl, rfl⟩)) fun H10 e10 => ?_
      · subst ev
        subst eu
        exact spx_told_first (hp9.pap.web.mono e10) (.l hp10) h0 h1 hm
      have hp10 := hp9.mono e10
      have hF := fun H' (e : Ex H10 H') => ((hp10.mono e).pap.web.ff v h0 h1).1
      refine q_asg (v := .int (lo W X v)) (ev_minL (l := (W.F v).map X) (el_lcM (ea_of (ev_var rfl) (hF _ (Ex.refl _))) (by have := hfl.2.1; omega) (fun _ => rfl) (fun x H11 e11 hx => ?_)) ?_) fun H11 e11 => ?_
      · have hb' := ok.fr v x h0 h1 hx
        exact ev_ixR (ev_Qrow (ev_var rfl) (hp10.mono e11) c.cls c.nr) (ev_var rfl) (.t (hp10.mono e11).row) hb'.1 hb'.2
      · intro z
        exact mov_ne hm (List.map_eq_nil_iff.mp z)
      have hp11 := hp10.mono e11
      refine q_asgL (xs := intV (lowest W X v)) (el_lcF (p := fun w => decide (X w = lo W X v)) (ea_of (ev_var rfl) (hF _ e11)) (by have := hfl.2.1; omega) (fun _ => rfl) (fun x H12 e12 hx => ?_) (fun _ _ => ev_var rfl)) fun p12 H12 n12 e12 h12 => ?_
      · have hb' := ok.fr v x h0 h1 hx
        exact et_test (ev_eqI (ev_ixR (ev_Qrow (ev_var rfl) (hp11.mono e12) c.cls c.nr) (ev_var rfl) (.t (hp11.mono e12).row) hb'.1 hb'.2) (ev_var rfl))
      have hp12 := hp11.mono e12
      have hll : (lowest W X v).length ≤ 60 := filter_len hfl.2.1
      refine q_asgL (xs := intV (below W X rk v)) (el_lcF (p := fun w => decide (rk w < rk v)) (ea_of (ev_var rfl) (.lst h12)) (by omega) (fun _ => rfl) (fun x H13 e13 hx => ?_) (fun _ _ => ev_var rfl)) fun p13 H13 n13 e13 h13 => ?_
      · have hb' := ok.fr v x h0 h1 (List.mem_filter.mp hx).1
        exact et_test (ev_I (ev_ixR (ev_Pranks (ev_Qpaper (ev_var rfl) (hp12.mono e13) c.cls c.np) (hp12.mono e13).pap) (ev_var rfl) (.t (hp12.mono e13).pap.h1) hb'.1 hb'.2) (ev_var rfl))
      have hst : Ev (tIf (tTru K (tVar 12)) (tCB (rMin K) (tCons (tVar 12) tNil)) (tCB (rMin K) (tCons (tVar 11) tNil))) [some (.ref q), some (.int v), some (.int a), some (.int (a - X v)), some (.int (rk v)), some (.ref (B.A.ff v)), some (.bl (Cc v)), some (.int (toldB1 W (fun w => rFst X rk v w + (a - X v)) v a)), none, some (.ref p9), some (.int (lo W X v)), some (.ref p12), some (.ref p13), none, none] H13 (.int (fStep W Cc X rk v a)) := by
        unfold fStep
        rw [if_neg hid, if_neg (by rw [hc]; exact Bool.false_ne_true)]
        refine ev_if (et_tru (ev_var rfl) (.lst h13)) (fun z => ?_) fun z => ?_
        · have hne : below W X rk v ≠ [] := fun y => by rw [y] at z; cases z
          rw [if_neg hne]
          exact ev_minS (ev_var rfl) (sq_of h13) hne
        · have hne : below W X rk v = [] := by
            cases e : below W X rk v with
            | nil => rfl
            | cons x l => rw [e] at z; cases z
          rw [if_pos hne]
          exact ev_minS (ev_var rfl) (sq_of (e13 _ _ h12)) (lowest_ne hm ok)
      refine s_retX (EvU.toX (eu_tup (vs := [.int (min (toldB1 W (fun w => rFst X rk v w + (a - X v)) v a) a), .int (fStep W Cc X rk v a)]) (ea_cons (ev_mn (ev_var rfl) (ev_var rfl)) (ea_cons hst ea_nil)) (by show 2 ≤ 100000; decide))) fun y H14 e14 ⟨pp, ey, hpp⟩ => ?_
      subst ey
      refine kk pp H14 (e06.trans (e7.trans (e8.trans (e9.trans (e10.trans (e11.trans (e12.trans (e13.trans e14)))))))) ?_
      have hbd : fBid W Cc X rk v a = min (toldB1 W (fun w => rFst X rk v w + (a - X v)) v a) a := by unfold fBid; rw [if_neg hid, if_neg (by rw [hc]; exact Bool.false_ne_true)]
      rw [hbd]
      exact st_of hpp
end
theorem d_CallFirst___call__ {w : World} {K : Frag} {mg : Str → Option Value} {base : Heap} (T : Txt w K mg) {f : Addr} {cdv : Value} {A : Around} {outer : List Env} {s : Shared} {H : Hp} {E : XK} (hr : Room 5 (A.deeper (envOfC "CallFirst.__call__" (defScope s_CallFirst___call__) s.heap.objs.size f cdv))) :
    PSs (cxOf CX0 PP w K mg base N_CallFirst___call__ "CallFirst.__call__" (defScope s_CallFirst___call__) f cdv A outer s H E).nox (defBody s_CallFirst___call__) (t_CallFirst___call__ K) := by
  exact (pss_cons (ps_expr (pe_methN (pv 0) T.c1 (T.m1 (memOf 3 rfl)).1 (ok_look1 T) hr (by decide) (pa_cons (pv 1) (pa_cons (pv 2) pa_nil))))
    (pss_cons (ps_expr (pe_f (ok_need_moving T) hr (by decide) (by rfl) (pa_cons (pe_fld (pv 0) rfl) (pa_cons (pv 1) pa_nil))))
    (pss_cons (ps_set (i := 3) sc_CallFirst___call__.nd rfl (Or.inr rfl) (pe_op op_sub (pv 2) (pe_ix ix_seq (pe_fld (pv 0) rfl) (pv 1) (fun _ _ => rfl))))
    (pss_cons (ps_set (i := 4) sc_CallFirst___call__.nd rfl (Or.inr rfl) (pe_ix ix_seq (pe_P_ranks T (pe_fld (pv 0) rfl) hr (by decide)) (pv 1) (fun _ _ => rfl)))
    (pss_cons (ps_set (i := 5) sc_CallFirst___call__.nd rfl (Or.inl rfl) (pe_ix ix_seq (pe_W_first T (pe_fld (pv 0) rfl) hr (by decide)) (pv 1) (fun _ _ => rfl)))
    (pss_cons (ps_set (i := 6) sc_CallFirst___call__.nd rfl (Or.inl rfl) (pe_cmpR op_in_seq (pv 1) (pe_P_calls T (pe_fld (pv 0) rfl) hr (by decide)) (by rfl)))
    (pss_cons (ps_if (PW.pt (pw_or (pt_cmpR op_lt (pv 3) pe_int (nomark _)) (pw_or1 (PW.pt (pw_and (pt_cmpR op_eq (pv 4) pe_int (nomark _)) (pw_and1 (pt_not (pt_val (pv 6))))))))) (pss_one (ps_ret (pe_tup (pa_cons pe_int (pa_cons (pe_ix ix_seq (pv 5) pe_int (fun _ _ => rfl)) pa_nil))))) pss_nil)
    (pss_cons (ps_if (pt_val (pv 6)) (pss_cons (ps_asg (pe_f (ok_told_first T) hr (by decide) (by rfl) (pa_cons (pe_fld (pv 0) rfl) (pa_cons (pe_lc (own := [("x", 13)]) (g := gName 13) (tt := tYes) (te := (tOp rAdd (tVar 13) (tVar 3))) rfl sc_CallFirst___call__.nd (pi_seq (pe_fld (pv 0) rfl)) (blkOk_by (N := N_CallFirst___call__) (sc := defScope s_CallFirst___call__) (by decide +kernel)) (fun _ _ _ _ _ => pg_name (i := 13) sc_CallFirst___call__.nd rfl (Or.inl rfl)) (fun _ _ _ _ _ => pts_nil) (fun _ _ _ _ _ => (pe_op op_add (pv 13) (pv 3)))) (pa_cons (pv 1) (pa_cons (pv 2) pa_nil))))) (pg_tup rfl (pgs_cons (pg_name (i := 7) sc_CallFirst___call__.nd rfl (Or.inl rfl)) (pgs_cons (pg_name (i := 8) sc_CallFirst___call__.nd rfl (Or.inl rfl)) pgs_nil))))
    (pss_one (ps_ret (pe_tup (pa_cons (pe_callB (call_min2 rfl) (by rfl) (T.free (memOf 2 rfl)) b_min (pa_cons (pv 7) (pa_cons (pv 2) pa_nil))) (pa_cons (pv 8) pa_nil)))))) pss_nil)
    (pss_cons (ps_set (i := 9) sc_CallFirst___call__.nd rfl (Or.inl rfl) (pe_f (ok_raised_row T) hr (by decide) (by rfl) (pa_cons (pe_fld (pv 0) rfl) (pa_cons (pe_P_ranks T (pe_fld (pv 0) rfl) hr (by decide)) (pa_cons (pv 4) pa_nil)))))
    (pss_cons (ps_set (i := 7) sc_CallFirst___call__.nd rfl (Or.inl rfl) (pe_ix ix_seq (pe_f (ok_told_first T) hr (by decide) (by rfl) (pa_cons (pe_fld (pv 0) rfl) (pa_cons (pe_lc (own := [("x", 13)]) (g := gName 13) (tt := tYes) (te := (tOp rAdd (tVar 13) (tVar 3))) rfl sc_CallFirst___call__.nd (pi_seq (pv 9)) (blkOk_by (N := N_CallFirst___call__) (sc := defScope s_CallFirst___call__) (by decide +kernel)) (fun _ _ _ _ _ => pg_name (i := 13) sc_CallFirst___call__.nd rfl (Or.inl rfl)) (fun _ _ _ _ _ => pts_nil) (fun _ _ _ _ _ => (pe_op op_add (pv 13) (pv 3)))) (pa_cons (pv 1) (pa_cons (pv 2) pa_nil))))) pe_int (fun _ _ => rfl)))
    (pss_cons (ps_set (i := 10) sc_CallFirst___call__.nd rfl (Or.inr rfl) (pe_callB (cr_min rfl) (by rfl) (T.free (memOf 2 rfl)) b_min (pa_cons (pe_lc (own := [("w", 14)]) (g := gName 14) (tt := tYes) (te := (tOp (rIx K) (tFld K (tVar 0) "_row") (tVar 14))) rfl sc_CallFirst___call__.nd (pi_seq (pv 5)) (blkOk_by (N := N_CallFirst___call__) (sc := defScope s_CallFirst___call__) (by decide +kernel)) (fun _ _ _ _ _ => pg_name (i := 14) sc_CallFirst___call__.nd rfl (Or.inl rfl)) (fun _ _ _ _ _ => pts_nil) (fun _ _ _ _ _ => (pe_ix ix_seq (pe_fld (pv 0) rfl) (pv 14) (fun _ _ => rfl)))) pa_nil)))
    (pss_cons (ps_setLc (i := 11) (own := [("w", 14)]) (g := gName 14) (tt := (tTest (tOp rEq (tOp (rIx K) (tFld K (tVar 0) "_row") (tVar 14)) (tVar 10)))) (te := (tVar 14)) rfl sc_CallFirst___call__.nd rfl rfl (sw_true rfl rfl rfl (by decide +kernel)) (pi_seq (pv 5)) (blkOk_by (N := N_CallFirst___call__) (sc := defScope s_CallFirst___call__) (by decide +kernel)) (fun _ _ _ _ _ => pg_name (i := 14) sc_CallFirst___call__.nd rfl (Or.inl rfl)) (fun _ _ _ _ _ => pts_one (pt_cmpR op_eq (pe_ix ix_seq (pe_fld (pv 0) rfl) (pv 14) (fun _ _ => rfl)) (pv 10) (nomark _))) (fun _ _ _ _ _ => (pv 14)))
    (pss_cons (ps_setLc (i := 12) (own := [("w", 14)]) (g := gName 14) (tt := (tTest (tOp rLt (tOp (rIx K) (tPP_ranks K (tFld K (tVar 0) "_paper")) (tVar 14)) (tVar 4)))) (te := (tVar 14)) rfl sc_CallFirst___call__.nd rfl rfl (sw_true rfl rfl rfl (by decide +kernel)) (pi_seq (pv 11)) (blkOk_by (N := N_CallFirst___call__) (sc := defScope s_CallFirst___call__) (by decide +kernel)) (fun _ _ _ _ _ => pg_name (i := 14) sc_CallFirst___call__.nd rfl (Or.inl rfl)) (fun _ _ _ _ _ => pts_one (pt_cmpR op_lt (pe_ix ix_seq (pe_P_ranks T (pe_fld (pv 0) rfl) hr (by decide)) (pv 14) (fun _ _ => rfl)) (pv 4) (nomark _))) (fun _ _ _ _ _ => (pv 14)))
    (pss_one (ps_ret (pe_tup (pa_cons (pe_callB (call_min2 rfl) (by rfl) (T.free (memOf 2 rfl)) b_min (pa_cons (pv 7) (pa_cons (pv 2) pa_nil))) (pa_cons (pe_ifExp (pt_truth (pv 12) (by intro _; rfl)) (pe_callB (cr_min rfl) (by rfl) (T.free (memOf 2 rfl)) b_min (pa_cons (pv 12) pa_nil)) (pe_callB (cr_min rfl) (by rfl) (T.free (memOf 2 rfl)) b_min (pa_cons (pv 11) pa_nil))) pa_nil))))))))))))))))))
theorem ok_CallFirst___call__ {w : World} {K : Frag} {mg : Str → Option Value} {base : Heap} (T : Txt w K mg) : FnR PP w K mg base CX0 6 (He.ma K (g1 K) "__call__") (sp_CallFirst___call__ K) := by
  have F := T.def_ (d := xm_CallFirst___call__) (memOf 62 rfl) rfl
  exact fnr_mk (k := 5) F sc_CallFirst___call__ (fun _ _ _ _ _ _ us hl => match us, hl with | [_, _, _], _ => rfl) (fun vs H Q E h => len_CallFirst___call__ h) (fun cdv A outer s H vs Q E hr h => ⟨t_CallFirst___call__ K, d_CallFirst___call__ T hr, pure_CallFirst___call__ T h⟩)
def sp_CallSecond___call__ (K : Frag) : Sp := fun vs H Q _ => ∃ q W Cc k X rk ct v a, vs = [.ref q, .int v, .int a] ∧ PlQ K (g2 K) H q W Cc k X rk ct ∧ 0 ≤ v ∧ v < W.n ∧ W.mov v = true ∧ 0 ≤ a ∧ a ≤ k ∧ RetP K (sBid W Cc k X ct v a) (sStep W Cc X ct v a) H Q
/-! CallSecond.__call__ -/
abbrev N_CallSecond___call__ : List Str := ["self", "stand", "purse", "spare", "count", "lessened", "bid", "step", "x"]
abbrev s_CallSecond___call__ : Stmt := inClass (top 74) 1
theorem sc_CallSecond___call__ : FnScope N_CallSecond___call__ ["self", "stand", "purse"] (defScope s_CallSecond___call__) := ⟨rfl, rfl, rfl, by decide +kernel, rfl, by decide +kernel, by decide +kernel⟩
def t_CallSecond___call__ (K : Frag) : TS := (tSeq (tDrop (tMethR (g2 K) "look" (sp_Plan_look K) E0 (tVar 0) (tCons (tVar 1) (tCons (tVar 2) tNil))))
    (tSeq (tDrop (tFn (sp_need_moving K) (tCons (tFld K (tVar 0) "_web") (tCons (tVar 1) tNil))))
    (tSeq (tAsg (tOp rSub (tOp rSub (tOp (rIx K) (tFld K (tVar 0) "_row") (tVar 1)) (tC (.int 1))) (tVar 2)) (gName 3))
    (tSeq (tAsg (tOp (rIx K) (tPP_counts K (tFld K (tVar 0) "_paper")) (tVar 1)) (gName 4))
    (tSeq (tIfS (tOr (tTest (tOp rLt (tVar 3) (tC (.int 0)))) (tTest (tOp rEq (tVar 4) (tC (.int 0))))) (tRet (tTup (tCons (tC (.int 0)) (tCons (tOp (rIx K) (tOp (rIx K) (tPW_second K (tFld K (tVar 0) "_web")) (tVar 1)) (tC (.int 0))) tNil)))) tNext)
    (tSeq (tIfS (tTest (tOp (rIn K true) (tVar 1) (tPP_calls K (tFld K (tVar 0) "_paper")))) (tAug 4 (tC (.int 1)) (ipI fun i j => i + j)) tNext)
    (tSeq (tAsg (tFn (sp_lessened_row K) (tCons (tFld K (tVar 0) "_row") (tCons (tPP_counts K (tFld K (tVar 0) "_paper")) (tCons (tVar 4) tNil)))) (gName 5))
    (tSeq (tAsg (tFn (sp_told_second K) (tCons (tFld K (tVar 0) "_web") (tCons (tLc (iSeq K (tVar 5)) (gName 8) tYes (tOp rSub (tVar 8) (tVar 3)) [8]) (tCons (tVar 1) (tCons (tVar 2) tNil))))) (gTup K 2 (gCons (gName 6) (gCons (gName 7) gNil))))
    (tRet (tTup (tCons (tCB rMin2' (tCons (tVar 6) (tCons (tOp rSub (tFld K (tVar 0) "_chips") (tVar 2)) tNil))) (tCons (tVar 7) tNil))))))))))))
section
variable {w : World} {K : Frag} {mg : Str → Option Value} {vs : List V} {H : Hp} {Q : VK} {E : XK}
theorem len_CallSecond___call__ (h : sp_CallSecond___call__ K vs H Q E) : vs.length = 3 := by obtain ⟨q, W, Cc, k, X, rk, ct, v, a, rfl, _⟩ := h; rfl
theorem pure_CallSecond___call__ (T : Txt w K mg) (h : sp_CallSecond___call__ K vs H Q E) : t_CallSecond___call__ K (E1 Q) (start N_CallSecond___call__ vs) H := by
  obtain ⟨q, W, Cc, k, X, rk, ct, v, a, rfl, ⟨dx, r, p, B, hp⟩, h0, h1, hm, h2, h3, kk⟩ := h
  have c := T.pl2
  have hn := hp.pap.web.n60
  have ok := hp.pap.web.ok
  have hfl := hp.pap.web.fs v h0 h1
  refine q_drop (ev_methR (ev_var rfl) hp.at_ rfl (ea_cons (ev_var rfl) (ea_cons (ev_var rfl) ea_nil)) (spv_look c hp h0 h1 h2 h3)) fun H1 e1 => ?_
  have hp1 := hp.mono e1
  refine q_drop (ev_fn (ea_cons (ev_Qweb (ev_var rfl) hp1 c.cls c.nw) (ea_cons (ev_var rfl) ea_nil)) (spv_need_moving hp1.pap.web h0 h1 hm)) fun H2 e2 => ?_
  have hp2 := hp1.mono e2
  refine q_asg (ev_I (ev_I (ev_ixR (ev_Qrow (ev_var rfl) hp2 c.cls c.nr) (ev_var rfl) (.t hp2.row) h0 h1) ev_c) (ev_var rfl)) fun H3 e3 => ?_
  have hp3 := hp2.mono e3
  refine q_asg (ev_ixR (ev_Pcounts (ev_Qpaper (ev_var rfl) hp3 c.cls c.np) hp3.pap) (ev_var rfl) (.t hp3.pap.h2) h0 h1) fun H4 e4 => ?_
  have hp4 := hp3.mono e4
  have e04 := (e1.trans e2).trans (e3.trans e4)
  refine q_when (et_or (et_test (ev_I (ev_var rfl) ev_c)) fun _ => et_test (ev_eqI (ev_var rfl) ev_c)) (fun hb H7 e7 => ?_) fun hb H7 e7 => ?_
  · have hid : sIdle X ct v a := by unfold sIdle; simpa using hb
    have hp7 := hp4.mono e7
    have hs0 : Ev (tOp (rIx K) (tOp (rIx K) (tPW_second K (tFld K (tVar 0) "_web")) (tVar 1)) (tC (.int 0))) [some (.ref q), some (.int v), some (.int a), some (.int (X v - 1 - a)), some (.int (ct v)), none, none, none, none] H7 (.int (minOf (W.S v))) := by
      have hne := ne_S ok h0 h1 hm
      have hl : 0 < (W.S v).length := List.length_pos_iff.mpr hne
      rw [← head_min hfl.2.2 hne]
      exact ev_ixI (ev_Wfs (ev_Qweb (ev_var rfl) hp7 c.cls c.nw) hp7.pap.web (ev_var rfl) h0 h1) ev_c (hp7.pap.web.fs v h0 h1).1 (by omega) (by omega)
    refine s_retX (EvU.toX (eu_tup (vs := [.int 0, .int (minOf (W.S v))]) (ea_cons ev_c (ea_cons hs0 ea_nil)) (by show 2 ≤ 100000; decide))) fun y H8 e8 ⟨pp, ey, hpp⟩ => ?_
    subst ey
    refine kk pp H8 (e04.trans (e7.trans e8)) ?_
    unfold sBid sStep
    rw [if_pos hid, if_pos hid]
    exact st_of hpp
  · have hid : ¬ sIdle X ct v a := by
      unfold sIdle
      intro z
      have : (decide (X v - 1 - a < 0) || decide (ct v = 0)) = true := by simpa using z
      rw [this] at hb
      cases hb
    have hp7 := hp4.mono e7
    have step : ∀ H8, Ex H7 H8 → tSeq (tAsg (tFn (sp_lessened_row K) (tCons (tFld K (tVar 0) "_row") (tCons (tPP_counts K (tFld K (tVar 0) "_paper")) (tCons (tVar 4) tNil)))) (gName 5))
        (tSeq (tAsg (tFn (sp_told_second K) (tCons (tFld K (tVar 0) "_web") (tCons (tLc (iSeq K (tVar 5)) (gName 8) tYes (tOp rSub (tVar 8) (tVar 3)) [8]) (tCons (tVar 1) (tCons (tVar 2) tNil))))) (gTup K 2 (gCons (gName 6) (gCons (gName 7) gNil))))
        (tRet (tTup (tCons (tCB rMin2' (tCons (tVar 6) (tCons (tOp rSub (tFld K (tVar 0) "_chips") (tVar 2)) tNil))) (tCons (tVar 7) tNil))))) (E1 Q) [some (.ref q), some (.int v), some (.int a), some (.int (X v - 1 - a)), some (.int (ct v + (if Cc v = true then 0 else 1))), none, none, none, none] H8 := fun H8 e8 => by
      have hp8 := hp7.mono e8
      refine q_asgL (el_fn (ea_cons (ev_Qrow (ev_var rfl) hp8 c.cls c.nr) (ea_cons (ev_Pcounts (ev_Qpaper (ev_var rfl) hp8 c.cls c.np) hp8.pap) (ea_cons (ev_var rfl) ea_nil))) (spl_lessened (.t hp8.row) (.t hp8.pap.h2) hn)) fun p9 H9 n9 e9 h9 => ?_
      have hp9 := hp8.mono e9
      refine q_pair (K := K) (P := fun _ _ => True) (a := .int (toldB2 W (fun w => rSnd Cc X ct v w - (X v - 1 - a)) v a)) (b := .int (toldS2 W (fun w => rSnd Cc X ct v w - (X v - 1 - a)) v)) (evx_fnX (ea_1 (ev_Qweb (ev_var rfl) hp9 c.cls c.nw) (ea_X (K := K) (PA := fun _ _ => True) (el_lcR (f := rSnd Cc X ct v) (g := fun w => rSnd Cc X ct v w - (X v - 1 - a)) (ea_of (ev_var rfl) (.lst h9)) (by omega) (fun _ => rfl) (fun w H10 e10 _ _ => ev_I (ev_var rfl) (ev_var rfl))) fun H10 e10 => ea_cons (ev_var rfl) (ea_cons (ev_var rfl) ea_nil)))
        fun vs H10 e10 ⟨us, ev, p10, eu, hp10⟩ => ?_) fun H10 e10 => ?_
      · subst ev
        subst eu
        exact spx_told_second (hp9.pap.web.mono e10) (.l hp10) h0 h1 hm
      · have hp10 := hp9.mono e10
        refine s_retX (EvU.toX (eu_tup (vs := [.int (min (toldB2 W (fun w => rSnd Cc X ct v w - (X v - 1 - a)) v a) (k - a)), .int (toldS2 W (fun w => rSnd Cc X ct v w - (X v - 1 - a)) v)]) (ea_cons (ev_mn (ev_var rfl) (ev_I (ev_Qchips (ev_var rfl) hp10 c.cls c.nk) (ev_var rfl))) (ea_cons (ev_var rfl) ea_nil)) (by show 2 ≤ 100000; decide))) fun y H11 e11 ⟨pp, ey, hpp⟩ => ?_
        subst ey
        refine kk pp H11 (e04.trans (e7.trans (e8.trans (e9.trans (e10.trans e11))))) ?_
        unfold sBid sStep
        rw [if_neg hid, if_neg hid]
        exact st_of hpp
    refine q_when (et_test (ev_ninC (ev_var rfl) (ev_Pcalls (ev_Qpaper (ev_var rfl) hp7 c.cls c.np) hp7.pap) hp7.pap.hc)) (fun hc H8 e8 => ?_) fun hc H8 e8 => ?_
    · refine s_aug (f := fun i j => i + j) rfl ev_c fun H9 e9 => ?_
      have := step H9 (e8.trans e9)
      rw [if_neg (by simpa using hc)] at this
      exact this
    · have := step H8 e8
      rw [if_pos (by simpa using hc), Int.add_zero] at this
      exact this
end
theorem d_CallSecond___call__ {w : World} {K : Frag} {mg : Str → Option Value} {base : Heap} (T : Txt w K mg) {f : Addr} {cdv : Value} {A : Around} {outer : List Env} {s : Shared} {H : Hp} {E : XK} (hr : Room 5 (A.deeper (envOfC "CallSecond.__call__" (defScope s_CallSecond___call__) s.heap.objs.size f cdv))) :
    PSs (cxOf CX0 PP w K mg base N_CallSecond___call__ "CallSecond.__call__" (defScope s_CallSecond___call__) f cdv A outer s H E).nox (defBody s_CallSecond___call__) (t_CallSecond___call__ K) := by
  exact (pss_cons (ps_expr (pe_methN (pv 0) T.c2 (T.m2 (memOf 3 rfl)).1 (ok_look2 T) hr (by decide) (pa_cons (pv 1) (pa_cons (pv 2) pa_nil))))
    (pss_cons (ps_expr (pe_f (ok_need_moving T) hr (by decide) (by rfl) (pa_cons (pe_fld (pv 0) rfl) (pa_cons (pv 1) pa_nil))))
    (pss_cons (ps_set (i := 3) sc_CallSecond___call__.nd rfl (Or.inr rfl) (pe_op op_sub (pe_op op_sub (pe_ix ix_seq (pe_fld (pv 0) rfl) (pv 1) (fun _ _ => rfl)) pe_int) (pv 2)))
    (pss_cons (ps_set (i := 4) sc_CallSecond___call__.nd rfl (Or.inl rfl) (pe_ix ix_seq (pe_P_counts T (pe_fld (pv 0) rfl) hr (by decide)) (pv 1) (fun _ _ => rfl)))
    (pss_cons (ps_if (PW.pt (pw_or (pt_cmpR op_lt (pv 3) pe_int (nomark _)) (pw_or1 (pt_cmpR op_eq (pv 4) pe_int (nomark _))))) (pss_one (ps_ret (pe_tup (pa_cons pe_int (pa_cons (pe_ix ix_seq (pe_ix ix_seq (pe_W_second T (pe_fld (pv 0) rfl) hr (by decide)) (pv 1) (fun _ _ => rfl)) pe_int (fun _ _ => rfl)) pa_nil))))) pss_nil)
    (pss_cons (ps_if (pt_cmpR op_notIn_seq (pv 1) (pe_P_calls T (pe_fld (pv 0) rfl) hr (by decide)) (by rfl)) (pss_one (ps_aug (i := 4) sc_CallSecond___call__.nd rfl (Or.inl rfl) pe_int ip_add)) pss_nil)
    (pss_cons (ps_set (i := 5) sc_CallSecond___call__.nd rfl (Or.inl rfl) (pe_f (ok_lessened_row T) hr (by decide) (by rfl) (pa_cons (pe_fld (pv 0) rfl) (pa_cons (pe_P_counts T (pe_fld (pv 0) rfl) hr (by decide)) (pa_cons (pv 4) pa_nil)))))
    (pss_cons (ps_asg (pe_f (ok_told_second T) hr (by decide) (by rfl) (pa_cons (pe_fld (pv 0) rfl) (pa_cons (pe_lc (own := [("x", 8)]) (g := gName 8) (tt := tYes) (te := (tOp rSub (tVar 8) (tVar 3))) rfl sc_CallSecond___call__.nd (pi_seq (pv 5)) (blkOk_by (N := N_CallSecond___call__) (sc := defScope s_CallSecond___call__) (by decide +kernel)) (fun _ _ _ _ _ => pg_name (i := 8) sc_CallSecond___call__.nd rfl (Or.inl rfl)) (fun _ _ _ _ _ => pts_nil) (fun _ _ _ _ _ => (pe_op op_sub (pv 8) (pv 3)))) (pa_cons (pv 1) (pa_cons (pv 2) pa_nil))))) (pg_tup rfl (pgs_cons (pg_name (i := 6) sc_CallSecond___call__.nd rfl (Or.inl rfl)) (pgs_cons (pg_name (i := 7) sc_CallSecond___call__.nd rfl (Or.inl rfl)) pgs_nil))))
    (pss_one (ps_ret (pe_tup (pa_cons (pe_callB (call_min2 rfl) (by rfl) (T.free (memOf 2 rfl)) b_min (pa_cons (pv 6) (pa_cons (pe_op op_sub (pe_fld (pv 0) rfl) (pv 2)) pa_nil))) (pa_cons (pv 7) pa_nil)))))))))))))
theorem ok_CallSecond___call__ {w : World} {K : Frag} {mg : Str → Option Value} {base : Heap} (T : Txt w K mg) : FnR PP w K mg base CX0 6 (He.ma K (g2 K) "__call__") (sp_CallSecond___call__ K) := by
  have F := T.def_ (d := xm_CallSecond___call__) (memOf 66 rfl) rfl
  exact fnr_mk (k := 5) F sc_CallSecond___call__ (fun _ _ _ _ _ _ us hl => match us, hl with | [_, _, _], _ => rfl) (fun vs H Q E h => len_CallSecond___call__ h) (fun cdv A outer s H vs Q E hr h => ⟨t_CallSecond___call__ K, d_CallSecond___call__ T hr, pure_CallSecond___call__ T h⟩)
end Pw
end

section
set_option maxRecDepth 100000
set_option maxHeartbeats 4000000
/-! Webs looked at and made. -/
namespace Pw
open PySem PySem.Spec L2 Evl StX PwS SlX
open PyProof.Rows hiding St
/-! ### sorted sets -/
theorem sorted_uniq : ∀ {l l' : List Int}, l.Pairwise (· < ·) → l'.Pairwise (· < ·) → (∀ x, x ∈ l ↔ x ∈ l') → l = l'
  | [], [], _, _, _ => rfl
  | [], b :: l', _, _, h => by have := (h b).mpr List.mem_cons_self; cases this
  | a :: l, [], _, _, h => by have := (h a).mp List.mem_cons_self; cases this
  | a :: l, b :: l', h1, h2, h => by
    have p1 := List.pairwise_cons.mp h1
    have p2 := List.pairwise_cons.mp h2
    have e : a = b := by
      rcases List.mem_cons.mp ((h a).mp List.mem_cons_self) with e | e
      · exact e
      · rcases List.mem_cons.mp ((h b).mpr List.mem_cons_self) with e' | e'
        · exact e'.symm
        · have := p1.1 b e'
          have := p2.1 a e
          omega
    subst e
    have : l = l' := sorted_uniq p1.2 p2.2 fun x => by
      have hx := h x
      rw [List.mem_cons, List.mem_cons] at hx
      constructor
      · intro z
        rcases hx.mp (.inr z) with e | e
        · have := p1.1 x z
          omega
        · exact e
      · intro z
        rcases hx.mpr (.inr z) with e | e
        · have := p2.1 x z
          omega
        · exact e
    rw [this]
def srt (n : Nat) (l : List Int) : List Int := (ran n).filter fun x => l.contains x
theorem ran_sorted (n : Nat) : (ran n).Pairwise (· < ·) := by
  unfold ran
  rw [List.pairwise_map]
  exact List.pairwise_lt_range.imp fun {a b} h => by omega
theorem srt_sorted (n : Nat) (l : List Int) : (srt n l).Pairwise (· < ·) := (ran_sorted n).sublist List.filter_sublist
theorem mem_srt {n : Nat} {l : List Int} (h : ∀ x ∈ l, 0 ≤ x ∧ x < n) {x : Int} : x ∈ srt n l ↔ x ∈ l := by
  unfold srt
  rw [List.mem_filter, mem_ran, List.contains_iff_mem]
  exact ⟨fun z => z.2, fun z => ⟨h x z, z⟩⟩
theorem srt_len (n : Nat) (l : List Int) : (srt n l).length ≤ n := filter_len (Nat.le_of_eq (ran_len n))
/-- the web whose steps are sorted sets -/
def wSrt (L : Wb) : Wb := ⟨L.n, fun v => srt L.n (L.F v), fun v => srt L.n (L.S v), L.mark, L.due⟩
theorem srt_nil {n : Nat} {l : List Int} (h : ∀ x ∈ l, 0 ≤ x ∧ x < n) : srt n l = [] ↔ l = [] := by
  constructor
  · intro z
    cases l with
    | nil => rfl
    | cons a l =>
      have := (mem_srt h).mpr (List.mem_cons_self (a := a) (l := l))
      rw [z] at this
      cases this
  · intro z
    subst z
    unfold srt
    rw [List.filter_eq_nil_iff]
    intro x _
    simp
theorem wSrt_ok {L : Wb} (ok : L.Ok) : (wSrt L).Ok where
  pos := ok.pos
  fs := fun v h0 h1 => by
    show srt L.n (L.F v) = [] ↔ srt L.n (L.S v) = []
    rw [srt_nil (ok.fr v · h0 h1), srt_nil (ok.sr v · h0 h1)]
    exact ok.fs v h0 h1
  fr := fun v w h0 h1 h => ok.fr v w h0 h1 ((mem_srt (ok.fr v · h0 h1)).mp h)
  sr := fun v w h0 h1 h => ok.sr v w h0 h1 ((mem_srt (ok.sr v · h0 h1)).mp h)
  mks := ok.mks
  du := ok.du
theorem wSrt_mov {L : Wb} (ok : L.Ok) {v : Int} (h0 : 0 ≤ v) (h1 : v < L.n) : (wSrt L).mov v = L.mov v := by
  have h := srt_nil (ok.fr v · h0 h1)
  show (!(srt L.n (L.F v)).isEmpty) = !(L.F v).isEmpty
  rw [Bool.eq_iff_iff]
  simp only [Bool.not_eq_true', List.isEmpty_eq_false_iff]
  exact ⟨fun z y => z (h.mpr y), fun z y => z (h.mp y)⟩
/-! ### a web's four lists, raw -/
structure RawW (K : Frag) (H : Hp) (f s m d : Addr) (L : Wb) (ff fs : Int → Addr) : Prop where
  ok : L.Ok
  n60 : L.n ≤ 60
  hf : SqA K H f ((ran L.n).map fun v => V.ref (ff v))
  hs : SqA K H s ((ran L.n).map fun v => V.ref (fs v))
  hm : SqA K H m (rowV L.n L.mark)
  hd : DuesV K H d L.n L.due
  ff : ∀ v : Int, 0 ≤ v → v < L.n → SqL K H (ff v) (intV (L.F v)) ∧ (L.F v).length ≤ 60
  fs : ∀ v : Int, 0 ≤ v → v < L.n → SqL K H (fs v) (intV (L.S v)) ∧ (L.S v).length ≤ 60
  dx : ∀ v : Int, 0 ≤ v → v < L.n → dueX (L.due v) ≤ 1000
theorem RawW.mono {K : Frag} {H H' : Hp} {f s m d : Addr} {L : Wb} {ff fs : Int → Addr} (e : Ex H H') (h : RawW K H f s m d L ff fs) : RawW K H' f s m d L ff fs :=
  ⟨h.ok, h.n60, h.hf.mono e, h.hs.mono e, h.hm.mono e, h.hd.mono e, fun v a b => ⟨ex_l e (h.ff v a b).1, (h.ff v a b).2⟩, fun v a b => ⟨ex_l e (h.fs v a b).1, (h.fs v a b).2⟩, h.dx⟩
theorem ran_at {n i : Nat} {g : Int → V} {x : V} (h : ((ran n).map g)[i]? = some x) : ∃ v : Int, 0 ≤ v ∧ v < n ∧ x = g v := by
  rw [List.getElem?_map] at h
  cases e : (ran n)[i]? with
  | none => rw [e] at h; cases h
  | some v =>
    rw [e] at h
    obtain ⟨h0, h1⟩ := mem_ran.mp (List.mem_of_getElem? e)
    exact ⟨v, h0, h1, (Option.some.inj h).symm⟩
section
variable {K : Frag} {σ : L2.St} {H : Hp} {ta tb te tl : TE} {p q : Addr} {xs ys : List V}
theorem evx_catLL (ha : EvL ta σ H xs) (hb : EvL tb σ H ys) (hz : xs.length + ys.length ≤ 100000) : EvL (tOp rCat ta tb) σ H (xs ++ ys) := fun H1 e Q k =>
  ha H1 e _ fun p H2 hp e2 h2 => hb H2 (e.trans e2) _ fun q H3 hq e3 h3 => ⟨p, q, xs, ys, rfl, rfl, e3 _ _ h2, h3, sz_of hz, fun p3 hp3 => k p3 _ (fresh_back (e2.trans e3) hp3) ((e2.trans e3).trans (Ex.new hp3)) upd_same⟩
theorem ev_boolL (ha : Ev ta σ H (.ref p)) (hs : SqL K H p xs) : Ev (tCB (rBoolL K) (tCons ta tNil)) σ H (.bl (!xs.isEmpty)) := fun H1 e Q k => ha H1 e _ fun H2 e2 => ⟨p, xs, rfl, ex_l (e.trans e2) hs, k H2 e2⟩
theorem ev_neB {a b : Bool} (ha : Ev ta σ H (.bl a)) (hb : Ev tb σ H (.bl b)) : Ev (tOp rNe ta tb) σ H (.bl (!decide (V.bl a = V.bl b))) := ev_op ha hb (rv_ne rfl)
/-- what has been made by turn i: each told by Pe -/
def CwX (H : Hp) {α : Type} (l : List α) (Pe : α → V → Hp → Prop) (Dl : Addr) (i : Nat) (H' : Hp) : Prop := H Dl = none ∧ Ex H H' ∧ ∃ ys : List V, H' Dl = some (.lst ys) ∧ ys.length = i ∧ ∀ (j : Nat) (a : α), j < i → l[j]? = some a → ∃ v, ys[j]? = some v ∧ Pe a v H'
theorem evx_lcX {α : Type} {l : List α} {emb : α → V} {j : Nat} {ws : List Nat} {Pe : α → V → Hp → Prop} (hx : EvX tl σ H (fun y H1 => ∃ p, y = .ref p ∧ SqA K H1 p (l.map emb))) (hz : l.length < 100000) (hw : ∀ x, wipe ((wipe σ ws).set j (some x)) ws = wipe σ ws)
    (he : ∀ a H1, Ex H H1 → a ∈ l → EvX te ((wipe σ ws).set j (some (emb a))) H1 (Pe a)) (m1 : ∀ a v H1 H2, Ex H1 H2 → Pe a v H1 → Pe a v H2) (m2 : ∀ a v H1 D zs o, H1 D = some (.lst zs) → Pe a v H1 → Pe a v (upd H1 D o)) :
    EvX (tLc (iSeq K tl) (gName j) tYes te ws) σ H (fun y H' => ∃ (p : Addr) (ys : List V), y = .ref p ∧ H' p = some (.lst ys) ∧ ys.length = l.length ∧ ∀ (i : Nat) (a : α), l[i]? = some a → ∃ v, ys[i]? = some v ∧ Pe a v H') := fun H0 e Q q => hx H0 e _ fun y H1 e1 ⟨p, ey, hs⟩ => by
  subst ey
  have key : ∀ (i : Nat) (x : V) (H' : Hp) (Dl : Addr), (l.map emb)[i]? = some x → CwX H1 l Pe Dl i H' →
      gName j x (wipe σ ws) H' fun σ2 H2 => wipe σ2 ws = wipe σ ws ∧ tYes σ2 H2 fun b H3 =>
      if b = true then te σ2 H3 fun y H4 => ∃ acc, H4 Dl = some (.lst acc) ∧ acc.length < sizeLine ∧ CwX H1 l Pe Dl (i + 1) (upd H4 Dl (.lst (acc ++ [y]))) else CwX H1 l Pe Dl (i + 1) H3 := fun i x H' Dl hi pc => by
    rw [List.getElem?_map] at hi
    cases ha : l[i]? with
    | none => rw [ha] at hi; cases hi
    | some a =>
      rw [ha] at hi
      have ex : emb a = x := Option.some.inj hi
      subst ex
      have hm : a ∈ l := List.mem_of_getElem? ha
      have hil : i < l.length := (List.getElem?_eq_some_iff.mp ha).1
      obtain ⟨d0, d1, ys, d2, d3, d4⟩ := pc
      refine ⟨hw _, ?_⟩
      show te _ H' fun y H4 => ∃ acc, H4 Dl = some (.lst acc) ∧ acc.length < sizeLine ∧ CwX H1 l Pe Dl (i + 1) (upd H4 Dl (.lst (acc ++ [y])))
      refine he a H' ((e.trans e1).trans d1) hm H' (Ex.refl _) _ fun y H4 e4 hy => ⟨ys, e4 _ _ d2, sz_lt (by omega), d0, Ex.mut (d1.trans e4) d0, ys ++ [y], upd_same, by rw [List.length_append, d3]; rfl, fun k b hk hb => ?_⟩
      by_cases ek : k = i
      · subst ek
        rw [ha] at hb
        cases hb
        exact ⟨y, by rw [List.getElem?_append_right (by omega), d3]; simp, m2 _ _ _ _ _ _ (e4 _ _ d2) hy⟩
      · obtain ⟨v, hv, hP⟩ := d4 k b (by omega) hb
        exact ⟨v, by rw [List.getElem?_append_left (by omega)]; exact hv, m2 _ _ _ _ _ _ (e4 _ _ d2) (m1 _ _ _ _ e4 hP)⟩
  have fin : ∀ (Dl : Addr) (H' : Hp), CwX H1 l Pe Dl (l.map emb).length H' → Q (.ref Dl) H' := fun Dl H' pc => by
    obtain ⟨d0, d1, ys, d2, d3, d4⟩ := pc
    rw [List.length_map] at d3 d4
    exact q _ H' (e1.trans d1) ⟨Dl, ys, rfl, d2, d3, fun i a ha => d4 i a (List.getElem?_eq_some_iff.mp ha).1 ha⟩
  refine ⟨p, rfl, ?_⟩
  rcases hs with hs | hs
  · exact .inl ⟨⟨_, hs⟩, fun Dl hD => lc_list (xs := l.map emb) (CwX H1 l Pe Dl) ⟨hD, Ex.new hD, [], upd_same, rfl, fun j a hj => absurd hj (Nat.not_lt_zero _)⟩ (fun i H' _ pc => ex_l pc.2.1 hs) (fun i x H' hi pc => key i x H' Dl hi pc) (fun H' pc => fin Dl H' pc)⟩
  · exact .inr ⟨⟨_, hs⟩, fun Dl hD => lc_tup (xs := l.map emb) (CwX H1 l Pe Dl) ⟨hD, Ex.new hD, [], upd_same, rfl, fun j a hj => absurd hj (Nat.not_lt_zero _)⟩ (fun i H' _ pc => ex_t pc.2.1 hs) (fun i x H' hi pc => key i x H' Dl hi pc) (fun H' pc => fin Dl H' pc)⟩
end
theorem DueV.updL {K : Frag} {H : Hp} {d : Due} {v : V} {D : Addr} {zs : List V} {o : HO} (hD : H D = some (.lst zs)) (h : DueV K H d v) : DueV K (upd H D o) d v := by
  have st : ∀ p xs, SqT K H p xs → SqT K (upd H D o) p xs := fun p xs hp => sqT_upd hp (fun ys z => by rw [hD] at z; cases z) fun ob u z => by rw [hD] at z; cases z
  cases d with
  | no => exact h
  | chips x => obtain ⟨a, e1, h1⟩ := h; exact ⟨a, e1, st _ _ h1⟩
  | less x => obtain ⟨a, e1, h1⟩ := h; exact ⟨a, e1, st _ _ h1⟩
def sp__look_kinds (K : Frag) : Sp := fun vs H Q _ => ∃ f s m d L ff fs, vs = [.ref f, .ref s, .ref m, .ref d] ∧ RawW K H f s m d L ff fs ∧ RetV .non H Q
/-! _look_kinds -/
abbrev N__look_kinds : List Str := ["first", "second", "marks", "dues", "lists", "one_list", "one_due"]
abbrev s__look_kinds : Stmt := top 29
theorem sc__look_kinds : FnScope N__look_kinds ["first", "second", "marks", "dues"] (defScope s__look_kinds) := ⟨rfl, rfl, rfl, by decide +kernel, rfl, by decide +kernel, by decide +kernel⟩
def t__look_kinds (K : Frag) : TS := (tSeq (tFor (iSeq K (tTup (tCons (tVar 0) (tCons (tVar 1) tNil)))) (gName 4) (tSeq (tDrop (tFn (sp_need_list K) (tCons (tVar 4) (tCons (tC (.str "the steps of a web")) tNil))))
    (tFor (iSeq K (tVar 4)) (gName 5) (tDrop (tFn (sp_need_integers K) (tCons (tVar 5) (tCons (tC (.str "the steps of a stand")) tNil)))))))
    (tSeq (tDrop (tFn (sp_need_integers K) (tCons (tVar 2) (tCons (tC (.str "the marks")) tNil))))
    (tSeq (tDrop (tFn (sp_need_list K) (tCons (tVar 3) (tCons (tC (.str "the dues")) tNil))))
    (tFor (iSeq K (tVar 3)) (gName 6) (tIfS (tNot (tB (tFn (sp_has_due_kind K) (tCons (tVar 6) tNil)))) tNever tNext)))))
section
variable {w : World} {K : Frag} {mg : Str → Option Value} {vs : List V} {H : Hp} {Q : VK} {E : XK}
theorem len__look_kinds (h : sp__look_kinds K vs H Q E) : vs.length = 4 := by obtain ⟨f, s, m, d, L, ff, fs, rfl, _⟩ := h; rfl
theorem pure__look_kinds (T : Txt w K mg) (h : sp__look_kinds K vs H Q E) : t__look_kinds K (E1 Q) (start N__look_kinds vs) H := by
  obtain ⟨f, s, m, d, L, ff, fs, rfl, hr, k⟩ := h
  have two : ∀ (H0 : Hp) (g : Addr) (fg : Int → Addr) (FG : Int → List Int) (v4 v5 : Option V) (Z : L2.St → Hp → Prop), SqA K H0 g ((ran L.n).map fun v => V.ref (fg v)) → (∀ v : Int, 0 ≤ v → v < L.n → SqL K H0 (fg v) (intV (FG v)) ∧ (FG v).length ≤ 60) →
      (∀ H1 v5, Ex H0 H1 → Z [some (.ref f), some (.ref s), some (.ref m), some (.ref d), some (.ref g), v5, none] H1) →
      tSeq (tDrop (tFn (sp_need_list K) (tCons (tVar 4) (tCons (tC (.str "the steps of a web")) tNil)))) (tFor (iSeq K (tVar 4)) (gName 5) (tDrop (tFn (sp_need_integers K) (tCons (tVar 5) (tCons (tC (.str "the steps of a stand")) tNil))))) { (E1 Q) with nx := Z, ct := Z }
        [some (.ref f), some (.ref s), some (.ref m), some (.ref d), some (.ref g), v5, none] H0 := fun H0 g fg FG v4 v5 Z hg hfg hZ => by
    refine q_drop (ev_fn (ea_cons (ev_var rfl) (ea_cons ev_c ea_nil)) (spv_need_list hg)) fun H1 e1 => ?_
    refine s_forB (H0 := H0) (ev_var rfl) hg (fun i σ' H' => (∃ v5, σ' = [some (.ref f), some (.ref s), some (.ref m), some (.ref d), some (.ref g), v5, none]) ∧ Ex H0 H') (fun H2 e2 => ⟨⟨_, rfl⟩, e1.trans e2⟩) (fun i σ' H' pc => pc.2) ?_ ?_
    · rintro i x σ' H' hi ⟨⟨v5, rfl⟩, e3⟩
      obtain ⟨v, h0, h1, rfl⟩ := ran_at hi
      exact s_drop (ev_fn (ea_cons (ev_var rfl) (ea_cons ev_c ea_nil)) (spv_need_integers (.l (ex_l e3 (hfg v h0 h1).1)) (by decide))) fun H3 e4 => ⟨⟨_, rfl⟩, e3.trans e4⟩
    · rintro σ' H' ⟨⟨v5, rfl⟩, e3⟩
      exact hZ H' v5 e3
  have hu : EvU (tTup (tCons (tVar 0) (tCons (tVar 1) tNil))) (start N__look_kinds [.ref f, .ref s, .ref m, .ref d]) H [.ref f, .ref s] := eu_tup (ea_cons (ev_var rfl) (ea_cons (ev_var rfl) ea_nil)) (by show 2 ≤ 100000; decide)
  refine q_forA ((EvU.toX hu).imp fun y H1 _ ⟨p, ey, hp⟩ => ⟨p, ey, .tup hp⟩) fun p H1 e1 hs1 => ⟨fun i σ' H' => (∃ v4 v5, σ' = [some (.ref f), some (.ref s), some (.ref m), some (.ref d), v4, v5, none]) ∧ Ex H1 H', ⟨⟨_, _, rfl⟩, Ex.refl _⟩, fun i σ' H' pc => Keep.ex pc.2, ?_, ?_⟩
  · rintro i x σ' H' hi ⟨⟨v4, v5, rfl⟩, e3⟩
    match i, hi with
    | 0, hi =>
      cases hi
      exact two H' f ff L.F v4 v5 _ (hr.hf.mono (e1.trans e3)) (fun v a b => ⟨ex_l (e1.trans e3) (hr.ff v a b).1, (hr.ff v a b).2⟩) fun H2 v5 e2 => ⟨⟨_, _, rfl⟩, e3.trans e2⟩
    | 1, hi =>
      cases hi
      exact two H' s fs L.S v4 v5 _ (hr.hs.mono (e1.trans e3)) (fun v a b => ⟨ex_l (e1.trans e3) (hr.fs v a b).1, (hr.fs v a b).2⟩) fun H2 v5 e2 => ⟨⟨_, _, rfl⟩, e3.trans e2⟩
  · rintro σ' H3 ⟨⟨v4, v5, rfl⟩, e3⟩
    have hr3 := hr.mono (e1.trans e3)
    refine q_drop (ev_fn (ea_cons (ev_var rfl) (ea_cons ev_c ea_nil)) (spv_need_integers (l := (ran L.n).map L.mark) (by rw [← rowV_int]; exact hr3.hm) (by decide))) fun H4 e4 => ?_
    obtain ⟨g, hg, hgd⟩ := hr3.hd
    refine q_drop (ev_fn (ea_cons (ev_var rfl) (ea_cons ev_c ea_nil)) (spv_need_list (hg.mono e4))) fun H5 e5 => ?_
    refine s_forB (H0 := H3) (ev_var rfl) hg (fun i σ' H' => (∃ v6, σ' = [some (.ref f), some (.ref s), some (.ref m), some (.ref d), v4, v5, v6]) ∧ Ex H3 H') (fun H6 e6 => ⟨⟨_, rfl⟩, (e4.trans e5).trans e6⟩) (fun i σ' H' pc => pc.2) ?_ fun σ' H' pc => k H' ((e1.trans e3).trans pc.2)
    rintro i x σ' H' hi ⟨⟨v6, rfl⟩, e6⟩
    obtain ⟨v, h0, h1, rfl⟩ := ran_at hi
    exact s_not (et_not (et_B (ev_fn (ea_cons (ev_var rfl) ea_nil) (spv_has_due_kind ((hgd v h0 h1).mono e6))))) fun H7 e7 => ⟨⟨_, rfl⟩, e6.trans e7⟩
end
theorem d__look_kinds {P : Program} {w : World} {K : Frag} {mg : Str → Option Value} {base : Heap} (T : Txt w K mg) {f : Addr} {cdv : Value} {A : Around} {outer : List Env} {s : Shared} {H : Hp} {E : XK} (hr : Room 3 (A.deeper (envOfC "_look_kinds" (defScope s__look_kinds) s.heap.objs.size f cdv))) :
    PSs (cxOf CX0 P w K mg base N__look_kinds "_look_kinds" (defScope s__look_kinds) f cdv A outer s H E).nox (defBody s__look_kinds) (t__look_kinds K) := by
  exact (pss_cons (ps_for PassesOwn.never rfl (pi_seq (pe_tup (pa_cons (pv 0) (pa_cons (pv 1) pa_nil)))) (pg_name (i := 4) sc__look_kinds.nd rfl (Or.inl rfl)) (pss_cons (ps_expr (pe_f (ok_need_list T) hr (by decide) (by rfl) (pa_cons (pv 4) (pa_cons pe_str pa_nil))))
    (pss_one (ps_for PassesOwn.never rfl (pi_seq (pv 4)) (pg_name (i := 5) sc__look_kinds.nd rfl (Or.inl rfl)) (pss_one (ps_expr (pe_f (ok_need_integers T) hr (by decide) (by rfl) (pa_cons (pv 5) (pa_cons pe_str pa_nil)))))))))
    (pss_cons (ps_expr (pe_f (ok_need_integers T) hr (by decide) (by rfl) (pa_cons (pv 2) (pa_cons pe_str pa_nil))))
    (pss_cons (ps_expr (pe_f (ok_need_list T) hr (by decide) (by rfl) (pa_cons (pv 3) (pa_cons pe_str pa_nil))))
    (pss_one (ps_for PassesOwn.never rfl (pi_seq (pv 3)) (pg_name (i := 6) sc__look_kinds.nd rfl (Or.inl rfl)) (pss_one (ps_if (pt_not (pt_val (pe_f (ok_has_due_kind T) hr (by decide) (by rfl) (pa_cons (pv 6) pa_nil)))) (pss_one ps_never) pss_nil)))))))
theorem ok__look_kinds {P : Program} {w : World} {K : Frag} {mg : Str → Option Value} {base : Heap} (T : Txt w K mg) : GF P w K mg base "_look_kinds" 4 (sp__look_kinds K) := by
  have F := T.def_ (d := xf__look_kinds) (memOf 15 rfl) rfl
  refine ⟨fnr_mk (k := 3) F sc__look_kinds (fun _ _ _ _ _ _ us hl => match us, hl with | [_, _, _, _], _ => rfl) (fun vs H Q E h => len__look_kinds h) (fun cdv A outer s H vs Q E hr h => ⟨t__look_kinds K, d__look_kinds T hr, pure__look_kinds T h⟩), ?_, T.glo (memOf 15 rfl)⟩
  obtain ⟨fd, F⟩ := F
  exact F.kp
def sp__look_stand (K : Frag) : Sp := fun vs H Q _ => ∃ (n : Nat) (f s : Addr) (lf ls : List Int) (m : Int) (dv : V) (d : Due), vs = [.int n, .ref f, .ref s, .int m, dv] ∧ SqL K H f (intV lf) ∧ SqL K H s (intV ls) ∧ lf.length ≤ 60 ∧ ls.length ≤ 60 ∧ (lf = [] ↔ ls = []) ∧ (∀ x ∈ lf, 0 ≤ x ∧ x < n) ∧ (∀ x ∈ ls, 0 ≤ x ∧ x < n) ∧ (m = 1 ∨ m = 2) ∧ DueV K H d dv ∧ d.ok ∧ RetV .non H Q
/-! _look_stand -/
abbrev N__look_stand : List Str := ["size", "first", "second", "mark", "due", "one_step"]
abbrev s__look_stand : Stmt := top 30
theorem sc__look_stand : FnScope N__look_stand ["size", "first", "second", "mark", "due"] (defScope s__look_stand) := ⟨rfl, rfl, rfl, by decide +kernel, rfl, by decide +kernel, by decide +kernel⟩
def t__look_stand (K : Frag) : TS := (tSeq (tIfS (tTest (tOp rNe (tCB (rBoolL K) (tCons (tVar 1) tNil)) (tCB (rBoolL K) (tCons (tVar 2) tNil)))) tNever tNext)
    (tSeq (tFor (iSeq K (tOp rCat (tCB (rListS K) (tCons (tVar 1) tNil)) (tCB (rListS K) (tCons (tVar 2) tNil)))) (gName 5) (tIfS (tOr (tTest (tOp rLt (tVar 5) (tC (.int 0)))) (tTest (tOp rGe (tVar 5) (tVar 0)))) tNever tNext))
    (tSeq (tIfS (tAnd (tTest (tOp rNe (tVar 3) (tC (.int 1)))) (tTest (tOp rNe (tVar 3) (tC (.int 2))))) tNever tNext)
    (tIfS (tNot (tB (tFn (sp_has_due_range K) (tCons (tVar 4) tNil)))) tNever tNext))))
section
variable {w : World} {K : Frag} {mg : Str → Option Value} {vs : List V} {H : Hp} {Q : VK} {E : XK}
theorem len__look_stand (h : sp__look_stand K vs H Q E) : vs.length = 5 := by obtain ⟨n, f, s, lf, ls, m, dv, d, rfl, _⟩ := h; rfl
theorem pure__look_stand (T : Txt w K mg) (h : sp__look_stand K vs H Q E) : t__look_stand K (E1 Q) (start N__look_stand vs) H := by
  obtain ⟨n, f, s, lf, ls, m, dv, d, rfl, hf, hs, l1, l2, hiff, h1, h2, hm, hd, hok, k⟩ := h
  refine q_not (et_is (et_test (ev_neB (ev_boolL (ev_var rfl) hf) (ev_boolL (ev_var rfl) hs))) ?_) fun H1 e1 => ?_
  · have : (intV lf).isEmpty = (intV ls).isEmpty := by
      unfold intV
      cases lf with
      | nil => rw [hiff.mp rfl]
      | cons a lf =>
        cases ls with
        | nil => have := hiff.mpr rfl; cases this
        | cons b ls => rfl
    rw [this]
    simp
  have hcat := evx_catLL (el_list (K := K) (ta := tVar 1) (σ := [some (.int n), some (.ref f), some (.ref s), some (.int m), some dv, none]) (ev_var rfl) (ex_l e1 hf)) (el_list (K := K) (ta := tVar 2) (σ := [some (.int n), some (.ref f), some (.ref s), some (.int m), some dv, none]) (ev_var rfl) (ex_l e1 hs)) (by rw [intV_len, intV_len]; omega)
  refine q_forA (ea_ofL hcat) fun p H2 e2 hs2 => ⟨fun i σ' H' => (∃ v, σ' = [some (.int n), some (.ref f), some (.ref s), some (.int m), some dv, v]) ∧ Ex H2 H', ⟨⟨_, rfl⟩, Ex.refl _⟩, fun i σ' H' pc => Keep.ex pc.2, ?_, ?_⟩
  · rintro i x σ' H' hi ⟨⟨v, rfl⟩, e3⟩
    have e4 : intV lf ++ intV ls = intV (lf ++ ls) := by unfold intV; rw [List.map_append]
    rw [e4] at hi
    obtain ⟨z, hz, rfl⟩ := intV_at hi
    have hb : 0 ≤ z ∧ z < n := by
      rcases List.mem_append.mp (List.mem_of_getElem? hz) with q | q
      · exact h1 z q
      · exact h2 z q
    exact s_not (et_is (et_or (et_test (ev_I (ev_var rfl) ev_c)) fun _ => et_test (ev_I (ev_var rfl) (ev_var rfl))) (by
      show (decide (z < 0) || decide ((n : Int) ≤ z)) = false
      rw [decide_eq_false (by omega), decide_eq_false (by omega)]
      rfl)) fun H3 e5 => ⟨⟨_, rfl⟩, e3.trans e5⟩
  · rintro σ' H3 ⟨⟨v, rfl⟩, e3⟩
    refine q_not (et_is (et_and (et_test (ev_neI (ev_var rfl) ev_c)) fun _ => et_test (ev_neI (ev_var rfl) ev_c)) (by rcases hm with rfl | rfl <;> rfl)) fun H4 e4 => ?_
    exact s_not (et_not (et_B (ev_fn (ea_cons (ev_var rfl) ea_nil) (spv_has_due_range (hd.mono ((e1.trans e2).trans (e3.trans e4))) hok)))) fun H5 e5 => k H5 ((e1.trans e2).trans (e3.trans (e4.trans e5)))
end
theorem d__look_stand {P : Program} {w : World} {K : Frag} {mg : Str → Option Value} {base : Heap} (T : Txt w K mg) {f : Addr} {cdv : Value} {A : Around} {outer : List Env} {s : Shared} {H : Hp} {E : XK} (hr : Room 1 (A.deeper (envOfC "_look_stand" (defScope s__look_stand) s.heap.objs.size f cdv))) :
    PSs (cxOf CX0 P w K mg base N__look_stand "_look_stand" (defScope s__look_stand) f cdv A outer s H E).nox (defBody s__look_stand) (t__look_stand K) := by
  exact (pss_cons (ps_if (pt_cmpR op_ne (pe_callTy call_boolL (by rfl) (T.free (memOf 10 rfl)) b_bool (pa_cons (pv 1) pa_nil)) (pe_callTy call_boolL (by rfl) (T.free (memOf 10 rfl)) b_bool (pa_cons (pv 2) pa_nil)) (nomark _)) (pss_one ps_never) pss_nil)
    (pss_cons (ps_for PassesOwn.never rfl (pi_seq (pe_op op_cat (pe_callTy call_list_of (by rfl) (T.free (memOf 7 rfl)) b_list (pa_cons (pv 1) pa_nil)) (pe_callTy call_list_of (by rfl) (T.free (memOf 7 rfl)) b_list (pa_cons (pv 2) pa_nil)))) (pg_name (i := 5) sc__look_stand.nd rfl (Or.inl rfl)) (pss_one (ps_if (PW.pt (pw_or (pt_cmpR op_lt (pv 5) pe_int (nomark _)) (pw_or1 (pt_cmpR op_ge (pv 5) (pv 0) (nomark _))))) (pss_one ps_never) pss_nil)))
    (pss_cons (ps_if (PW.pt (pw_and (pt_cmpR op_ne (pv 3) pe_int (nomark _)) (pw_and1 (pt_cmpR op_ne (pv 3) pe_int (nomark _))))) (pss_one ps_never) pss_nil)
    (pss_one (ps_if (pt_not (pt_val (pe_f (ok_has_due_range T) hr (by decide) (by rfl) (pa_cons (pv 4) pa_nil)))) (pss_one ps_never) pss_nil)))))
theorem ok__look_stand {P : Program} {w : World} {K : Frag} {mg : Str → Option Value} {base : Heap} (T : Txt w K mg) : GF P w K mg base "_look_stand" 2 (sp__look_stand K) := by
  have F := T.def_ (d := xf__look_stand) (memOf 16 rfl) rfl
  refine ⟨fnr_mk (k := 1) F sc__look_stand (fun _ _ _ _ _ _ us hl => match us, hl with | [_, _, _, _, _], _ => rfl) (fun vs H Q E h => len__look_stand h) (fun cdv A outer s H vs Q E hr h => ⟨t__look_stand K, d__look_stand T hr, pure__look_stand T h⟩), ?_, T.glo (memOf 16 rfl)⟩
  obtain ⟨fd, F⟩ := F
  exact F.kp
def sp__look_web (K : Frag) : Sp := fun vs H Q _ => ∃ f s m d L ff fs, vs = [.ref f, .ref s, .ref m, .ref d] ∧ RawW K H f s m d L ff fs ∧ RetV .non H Q
/-! _look_web -/
abbrev N__look_web : List Str := ["first", "second", "marks", "dues", "size", "at", "one_due"]
abbrev s__look_web : Stmt := top 31
theorem sc__look_web : FnScope N__look_web ["first", "second", "marks", "dues"] (defScope s__look_web) := ⟨rfl, rfl, rfl, by decide +kernel, rfl, by decide +kernel, by decide +kernel⟩
def t__look_web (K : Frag) : TS := (tSeq (tAsg (tCB (rLenS K) (tCons (tVar 2) tNil)) (gName 4))
    (tSeq (tIfS (tOr (tTest (tOp rEq (tVar 4) (tC (.int 0)))) (tOr (tTest (tOp rNe (tCB (rLenS K) (tCons (tVar 0) tNil)) (tVar 4))) (tOr (tTest (tOp rNe (tCB (rLenS K) (tCons (tVar 1) tNil)) (tVar 4))) (tTest (tOp rNe (tCB (rLenS K) (tCons (tVar 3) tNil)) (tVar 4)))))) tNever tNext)
    (tSeq (tFor (iRng1 (tCons (tVar 4) tNil)) (gName 5) (tDrop (tFn (sp__look_stand K) (tCons (tVar 4) (tCons (tOp (rIx K) (tVar 0) (tVar 5)) (tCons (tOp (rIx K) (tVar 1) (tVar 5)) (tCons (tOp (rIx K) (tVar 2) (tVar 5)) (tCons (tOp (rIx K) (tVar 3) (tVar 5)) tNil))))))))
    (tSeq (tDrop (tFn (sp_need_up_to K) (tCons (tVar 4) (tCons (tC (.int 60)) (tCons (tC (.str "the number of stands")) tNil)))))
    (tFor (iSeq K (tVar 3)) (gName 6) (tIfS (tTest (tOp rNotN (tVar 6) (tC .non))) (tDrop (tFn (sp_need_up_to K) (tCons (tOp (rIx K) (tVar 6) (tC (.int 1))) (tCons (tC (.int 10000000000000000000000000000000000000000)) (tCons (tC (.str "the number of a due")) tNil))))) tNext))))))
section
variable {w : World} {K : Frag} {mg : Str → Option Value} {vs : List V} {H : Hp} {Q : VK} {E : XK}
theorem len__look_web (h : sp__look_web K vs H Q E) : vs.length = 4 := by obtain ⟨f, s, m, d, L, ff, fs, rfl, _⟩ := h; rfl
theorem pure__look_web (T : Txt w K mg) (h : sp__look_web K vs H Q E) : t__look_web K (E1 Q) (start N__look_web vs) H := by
  obtain ⟨f, s, m, d, L, ff, fs, rfl, hr, k⟩ := h
  obtain ⟨g, hg, hgd⟩ := hr.hd
  have hpos := hr.ok.pos
  have h60 := hr.n60
  have lenA : ∀ {H1 : Hp} {σ : L2.St} {ta : TE} {p : Addr} {g : Int → V}, Ev ta σ H1 (.ref p) → SqA K H1 p ((ran L.n).map g) → Ev (tCB (rLenS K) (tCons ta tNil)) σ H1 (.int (L.n : Int)) := fun h1 h2 => by
    have := ev_len' h1 h2
    rw [ranV_len] at this
    exact this
  refine q_asg (ev_lenR (ev_var rfl) hr.hm) fun H1 e1 => ?_
  refine q_not (et_is (et_or (et_test (ev_eqI (ev_var rfl) ev_c)) fun _ => et_or (et_test (ev_neI (lenA (ev_var rfl) (hr.hf.mono e1)) (ev_var rfl))) fun _ => et_or (et_test (ev_neI (lenA (ev_var rfl) (hr.hs.mono e1)) (ev_var rfl))) fun _ => et_test (ev_neI (lenA (ev_var rfl) (hg.mono e1)) (ev_var rfl))) ?_) fun H2 e2 => ?_
  · have : ¬ ((L.n : Int) = 0) := by omega
    have h2 : ¬ L.n = 0 := by omega
    simp [this, h2]
  refine q_forR1 (n := (L.n : Int)) (ea_cons (ev_var rfl) ea_nil) ⟨by omega, by omega⟩ (fun i σ' H' => (∃ v, σ' = [some (.ref f), some (.ref s), some (.ref m), some (.ref d), some (.int L.n), v, none]) ∧ Ex H H') (fun H3 e3 => ⟨⟨_, rfl⟩, (e1.trans e2).trans e3⟩) ?_ ?_
  · rintro i σ' H' hi ⟨⟨v, rfl⟩, e3⟩
    have hr3 := hr.mono e3
    have h0 : (0 : Int) ≤ i := by omega
    refine s_drop (v := .non) (ev_fn (ea_cons (ev_var rfl) (ea_cons (ev_ix (ev_var rfl) (ev_var rfl) hr3.hf (atI_ran h0 hi)) (ea_cons (ev_ix (ev_var rfl) (ev_var rfl) hr3.hs (atI_ran h0 hi)) (ea_cons (ev_ixR (ev_var rfl) (ev_var rfl) hr3.hm h0 hi) (ea_cons (ev_ix (ev_var rfl) (ev_var rfl) (hg.mono e3) (atI_ran h0 hi)) ea_nil))))) ?_) fun H4 e4 => ⟨⟨_, rfl⟩, e3.trans e4⟩
    exact fun H4 e4 Q q E => ⟨L.n, ff i, fs i, L.F i, L.S i, L.mark i, g i, L.due i, rfl, ex_l e4 (hr3.ff i h0 hi).1, ex_l e4 (hr3.fs i h0 hi).1, (hr3.ff i h0 hi).2, (hr3.fs i h0 hi).2, hr.ok.fs i h0 hi, fun x hx => hr.ok.fr i x h0 hi hx, fun x hx => hr.ok.sr i x h0 hi hx, hr.ok.mks i h0 hi, (hgd i h0 hi).mono (e3.trans e4), hr.ok.du i h0 hi, fun H5 e5 => q H5 e5⟩
  · rintro σ' H3 ⟨⟨v, rfl⟩, e3⟩
    refine q_drop (ev_fn (ea_cons (ev_var rfl) (ea_cons (ev_c) (ea_cons ev_c ea_nil))) (spv_need_up_to (by omega))) fun H4 e4 => ?_
    refine s_forB (H0 := H) (ev_var rfl) hg (fun i σ' H' => (∃ v6, σ' = [some (.ref f), some (.ref s), some (.ref m), some (.ref d), some (.int L.n), v, v6]) ∧ Ex H H') (fun H5 e5 => ⟨⟨_, rfl⟩, (e3.trans e4).trans e5⟩) (fun i σ' H' pc => pc.2) ?_ fun σ' H' pc => k H' pc.2
    rintro i x σ' H' hi ⟨⟨v6, rfl⟩, e6⟩
    obtain ⟨v, h0, h1, rfl⟩ := ran_at hi
    have hdx := hr.dx v h0 h1
    rcases ((hgd v h0 h1).mono e6).cases with ⟨_, hv⟩ | ⟨a, y, z, hv, hsq, hy⟩
    · rw [hv]
      exact s_not (et_is (et_test (ev_notN (ev_var rfl))) rfl) fun H7 e7 => ⟨⟨_, rfl⟩, e6.trans e7⟩
    · rw [hv]
      refine s_when (b := true) (et_is (et_test (ev_notN (ev_var rfl))) (by simp)) (fun _ H7 e7 => ?_) fun z => nomatch z
      have hyx : dueX (L.due v) = y := by
        rcases hy with ⟨e, _⟩ | ⟨e, _⟩ <;> rw [e] <;> rfl
      exact s_drop (ev_fn (ea_cons (ev_ix (ev_var rfl) ev_c (.t (ex_t e7 hsq)) rfl) (ea_cons ev_c (ea_cons ev_c ea_nil))) (spv_need_up_to (by omega))) fun H8 e8 => ⟨⟨_, rfl⟩, e6.trans (e7.trans e8)⟩
end
theorem d__look_web {P : Program} {w : World} {K : Frag} {mg : Str → Option Value} {base : Heap} (T : Txt w K mg) {f : Addr} {cdv : Value} {A : Around} {outer : List Env} {s : Shared} {H : Hp} {E : XK} (hr : Room 2 (A.deeper (envOfC "_look_web" (defScope s__look_web) s.heap.objs.size f cdv))) :
    PSs (cxOf CX0 P w K mg base N__look_web "_look_web" (defScope s__look_web) f cdv A outer s H E).nox (defBody s__look_web) (t__look_web K) := by
  obtain ⟨_, hGREATEST_DUE⟩ := T.ints (memOf 0 rfl : (("GREATEST_DUE" : Str), (10000000000000000000000000000000000000000 : Int)) ∈ intsG)
  obtain ⟨_, hMOST_STANDS⟩ := T.ints (memOf 1 rfl : (("MOST_STANDS" : Str), (60 : Int)) ∈ intsG)
  exact (pss_cons (ps_set (i := 4) sc__look_web.nd rfl (Or.inl rfl) (pe_callB call_len_seq (by rfl) (T.free (memOf 0 rfl)) b_len (pa_cons (pv 2) pa_nil)))
    (pss_cons (ps_if (PW.pt (pw_or (pt_cmpR op_eq (pv 4) pe_int (nomark _)) (pw_or (pt_cmpR op_ne (pe_callB call_len_seq (by rfl) (T.free (memOf 0 rfl)) b_len (pa_cons (pv 0) pa_nil)) (pv 4) (nomark _)) (pw_or (pt_cmpR op_ne (pe_callB call_len_seq (by rfl) (T.free (memOf 0 rfl)) b_len (pa_cons (pv 1) pa_nil)) (pv 4) (nomark _)) (pw_or1 (pt_cmpR op_ne (pe_callB call_len_seq (by rfl) (T.free (memOf 0 rfl)) b_len (pa_cons (pv 3) pa_nil)) (pv 4) (nomark _))))))) (pss_one ps_never) pss_nil)
    (pss_cons (ps_for PassesOwn.never rfl (pi_range1 (by rfl) (T.free (memOf 1 rfl)) (pa_cons (pv 4) pa_nil)) (pg_name (i := 5) sc__look_web.nd rfl (Or.inl rfl)) (pss_one (ps_expr (pe_f (ok__look_stand T) hr (by decide) (by rfl) (pa_cons (pv 4) (pa_cons (pe_ix ix_seq (pv 0) (pv 5) (fun _ _ => rfl)) (pa_cons (pe_ix ix_seq (pv 1) (pv 5) (fun _ _ => rfl)) (pa_cons (pe_ix ix_seq (pv 2) (pv 5) (fun _ _ => rfl)) (pa_cons (pe_ix ix_seq (pv 3) (pv 5) (fun _ _ => rfl)) pa_nil)))))))))
    (pss_cons (ps_expr (pe_f (ok_need_up_to T) hr (by decide) (by rfl) (pa_cons (pv 4) (pa_cons (pe_glob (v := .int 60) (by rfl) hMOST_STANDS ⟨_, rfl⟩) (pa_cons pe_str pa_nil)))))
    (pss_one (ps_for PassesOwn.never rfl (pi_seq (pv 3)) (pg_name (i := 6) sc__look_web.nd rfl (Or.inl rfl)) (pss_one (ps_if (pt_cmpR op_notN1 (pv 6) pe_non (nomark _)) (pss_one (ps_expr (pe_f (ok_need_up_to T) hr (by decide) (by rfl) (pa_cons (pe_ix ix_seq (pv 6) pe_int (fun _ _ => rfl)) (pa_cons (pe_glob (v := .int 10000000000000000000000000000000000000000) (by rfl) hGREATEST_DUE ⟨_, rfl⟩) (pa_cons pe_str pa_nil)))))) pss_nil))))))))
theorem ok__look_web {P : Program} {w : World} {K : Frag} {mg : Str → Option Value} {base : Heap} (T : Txt w K mg) : GF P w K mg base "_look_web" 3 (sp__look_web K) := by
  have F := T.def_ (d := xf__look_web) (memOf 17 rfl) rfl
  refine ⟨fnr_mk (k := 2) F sc__look_web (fun _ _ _ _ _ _ us hl => match us, hl with | [_, _, _, _], _ => rfl) (fun vs H Q E h => len__look_web h) (fun cdv A outer s H vs Q E hr h => ⟨t__look_web K, d__look_web T hr, pure__look_web T h⟩), ?_, T.glo (memOf 17 rfl)⟩
  obtain ⟨fd, F⟩ := F
  exact F.kp
end Pw
end

section
set_option maxRecDepth 100000
set_option maxHeartbeats 4000000
/-! Webs made. -/
namespace Pw
open PySem PySem.Spec L2 Evl StX PwS SlX
open PyProof.Rows hiding St
theorem ys_ran {n : Nat} {ys : List V} (h : ys.length = n) : ys = (ran n).map fun v => ys.getD v.toNat .non := by
  refine List.ext_getElem? fun i => ?_
  rw [List.getElem?_map]
  by_cases hi : i < n
  · rw [ran_get hi]
    show ys[i]? = some (ys.getD ((i : Int).toNat) .non)
    rw [Int.toNat_natCast, List.getD_eq_getElem?_getD]
    cases e : ys[i]? with
    | none => rw [List.getElem?_eq_none_iff] at e; omega
    | some v => rfl
  · rw [List.getElem?_eq_none (by omega), List.getElem?_eq_none (by rw [ran_len]; omega)]
    rfl
theorem ys_at {n : Nat} {ys : List V} {P : Int → V → Prop} (h : ys.length = n) (hp : ∀ (i : Nat) (a : Int), (ran n)[i]? = some a → ∃ v, ys[i]? = some v ∧ P a v) {v : Int} (h0 : 0 ≤ v) (h1 : v < n) : P v (ys.getD v.toNat .non) := by
  have e := ran_get (n := n) (i := v.toNat) (by omega)
  rw [Int.toNat_of_nonneg h0] at e
  obtain ⟨u, hu, hP⟩ := hp _ _ e
  rw [List.getD_eq_getElem?_getD, hu]
  exact hP
/-- v is a tuple of these ints -/
def TupI (K : Frag) (l : List Int) (v : V) (H : Hp) : Prop := ∃ p, v = .ref p ∧ SqT K H p (intV l)
theorem TupI.mono {K : Frag} {l : List Int} {v : V} {H1 H2 : Hp} (e : Ex H1 H2) (h : TupI K l v H1) : TupI K l v H2 := by
  obtain ⟨p, ev, hp⟩ := h
  exact ⟨p, ev, ex_t e hp⟩
theorem TupI.updL {K : Frag} {l : List Int} {v : V} {H : Hp} {D : Addr} {zs : List V} {o : HO} (hD : H D = some (.lst zs)) (h : TupI K l v H) : TupI K l v (upd H D o) := by
  obtain ⟨p, ev, hp⟩ := h
  exact ⟨p, ev, sqT_upd hp (fun ys z => by rw [hD] at z; cases z) fun ob u z => by rw [hD] at z; cases z⟩
theorem evx_tupY {K : Frag} {σ : L2.St} {H : Hp} {ta : TE} {P : V → Hp → Prop} {Z : List V → Hp → Prop} (ha : EvX ta σ H P) (h : ∀ y H1, Ex H H1 → P y H1 → ∃ p ys, y = .ref p ∧ H1 p = some (.lst ys) ∧ Z ys H1) (m : ∀ ys H1 H2, Ex H1 H2 → Z ys H1 → Z ys H2) :
    EvX (tCB (rTupS K) (tCons ta tNil)) σ H (fun y H2 => ∃ p ys, y = .ref p ∧ SqT K H2 p ys ∧ Z ys H2) := fun H1 e Q q => ha H1 e _ fun y H2 e2 hp => by
  obtain ⟨p, ys, rfl, hy, hz⟩ := h y H2 (e.trans e2) hp
  exact ⟨p, ys, rfl, .inl ⟨sq_of hy, fun l hl => q _ _ (e2.trans (Ex.new hl)) ⟨l, ys, rfl, st_of upd_same, m _ _ _ (Ex.new hl) hz⟩⟩⟩
/-- a tuple, each of its items told -/
def RanX {α : Type} (n : Nat) (Pe : Int → V → Hp → Prop) (ys : List V) (H : Hp) : Prop := ys.length = n ∧ ∀ (i : Nat) (a : Int), (ran n)[i]? = some a → ∃ v, ys[i]? = some v ∧ Pe a v H
theorem evx_tupR {K : Frag} {σ : L2.St} {H : Hp} {tl te : TE} {p : Addr} {n : Nat} {g : Int → V} {j : Nat} {ws : List Nat} {Pe : Int → V → Hp → Prop} (ha : Ev tl σ H (.ref p)) (hs : SqA K H p ((ran n).map g)) (hn : n ≤ 60) (hw : ∀ x, wipe ((wipe σ ws).set j (some x)) ws = wipe σ ws)
    (he : ∀ (v : Int) H1, Ex H H1 → 0 ≤ v → v < n → EvX te ((wipe σ ws).set j (some (g v))) H1 (Pe v)) (m1 : ∀ a v H1 H2, Ex H1 H2 → Pe a v H1 → Pe a v H2) (m2 : ∀ a v H1 D zs o, H1 D = some (.lst zs) → Pe a v H1 → Pe a v (upd H1 D o)) :
    EvX (tCB (rTupS K) (tCons (tLc (iSeq K tl) (gName j) tYes te ws) tNil)) σ H (fun y H' => ∃ p h, y = .ref p ∧ SqT K H' p ((ran n).map h) ∧ ∀ v : Int, 0 ≤ v → v < n → Pe v (h v) H') := by
  have key := evx_lcX (K := K) (σ := σ) (H := H) (tl := tl) (te := te) (l := ran n) (emb := g) (j := j) (ws := ws) (Pe := Pe) (ea_of ha hs) (by rw [ran_len]; omega) hw (fun v H1 e1 hv => he v H1 e1 (mem_ran.mp hv).1 (mem_ran.mp hv).2) m1 m2
  refine (evx_tupY (K := K) (Z := fun ys H' => ys.length = n ∧ ∀ (i : Nat) (a : Int), (ran n)[i]? = some a → ∃ v, ys[i]? = some v ∧ Pe a v H') key (fun y H1 _ ⟨p, ys, ey, hp, hl, hh⟩ => ⟨p, ys, ey, hp, by rw [hl, ran_len], hh⟩) (fun ys H1 H2 e ⟨hl, hh⟩ => ⟨hl, fun i a hi => ?_⟩)).imp fun y H1 _ ⟨p, ys, ey, hp, hl, hh⟩ => ?_
  · obtain ⟨v, h1, h2⟩ := hh i a hi
    exact ⟨v, h1, m1 _ _ _ _ e h2⟩
  · refine ⟨p, fun v => ys.getD v.toNat .non, ey, ?_, fun v h0 h1 => ys_at (P := fun v y => Pe v y H1) hl hh h0 h1⟩
    rw [← ys_ran hl]
    exact hp
/-- tuple([tuple(sorted(set(x))) for x in xs]) -/
theorem evx_sorts {w : World} {K : Frag} {σ : L2.St} {H : Hp} {tl : TE} {p : Addr} {n : Nat} {g : Int → Addr} {G : Int → List Int} {j : Nat} {ws : List Nat} (ha : Ev tl σ H (.ref p)) (hs : SqA K H p ((ran n).map fun v => V.ref (g v))) (hg : ∀ v : Int, 0 ≤ v → v < n → SqL K H (g v) (intV (G v)) ∧ (G v).length ≤ 60)
    (hin : ∀ v x : Int, 0 ≤ v → v < n → x ∈ G v → 0 ≤ x ∧ x < n) (hn : n ≤ 60) (hw : ∀ x, wipe ((wipe σ ws).set j (some x)) ws = wipe σ ws) (hj : ∀ x : V, ((wipe σ ws).set j (some x))[j]? = some (some x)) :
    EvX (tCB (rTupS K) (tCons (tLc (iSeq K tl) (gName j) tYes (tCB (rTupS K) (tCons (tCB (rSortedSet w) (tCons (tCB (rSetA K w) (tCons (tVar j) tNil)) tNil)) tNil)) ws) tNil)) σ H
      (fun y H' => ∃ (p : Addr) (ff : Int → Addr), y = .ref p ∧ SqT K H' p ((ran n).map fun v => V.ref (ff v)) ∧ ∀ v : Int, 0 ≤ v → v < n → SqT K H' (ff v) (intV (srt n (G v)))) := by
  have key := evx_tupR (K := K) (σ := σ) (H := H) (tl := tl) (te := tCB (rTupS K) (tCons (tCB (rSortedSet w) (tCons (tCB (rSetA K w) (tCons (tVar j) tNil)) tNil)) tNil)) (j := j) (ws := ws) (Pe := fun v y H' => TupI K (srt n (G v)) y H') ha hs hn hw (fun v H1 e1 h0 h1 => ?_) (fun _ _ _ _ e h => h.mono e) (fun _ _ _ _ _ _ hD h => h.updL hD)
  · refine key.imp fun y H1 _ ⟨p, h, ey, hp, hh⟩ => ?_
    refine ⟨p, fun v => match h v with | .ref a => a | _ => 0, ey, ?_, fun v h0 h1 => ?_⟩
    · have : ((ran n).map fun v => V.ref (match h v with | .ref a => a | _ => 0)) = (ran n).map h := List.map_congr_left fun v hv => by
        obtain ⟨q, e, _⟩ := hh v (mem_ran.mp hv).1 (mem_ran.mp hv).2
        rw [e]
      rw [this]
      exact hp
    · obtain ⟨q, e, hq⟩ := hh v h0 h1
      show SqT K H1 (match h v with | .ref a => a | _ => 0) _
      rw [e]
      exact hq
  · refine (evx_sortedSet (w := w) (K := K) (l := G v) (ev_var (hj _)) (.l (ex_l e1 (hg v h0 h1).1)) (hg v h0 h1).2).imp fun y H2 e2 ⟨p2, l', ey, hp2, hm, hpw, _⟩ => ?_
    have : l' = srt n (G v) := sorted_uniq hpw (srt_sorted n _) fun x => (hm x).trans (mem_srt (hin v · h0 h1)).symm
    exact ⟨p2, ey, by rw [← this]; exact hp2⟩
theorem ex_sqs {K : Frag} {H H2 : Hp} {n : Nat} {ff : Int → Addr} {G : Int → List Int} (g : ∀ p xs, SqT K H p xs → SqT K H2 p xs) (h : ∀ v : Int, 0 ≤ v → v < n → SqT K H (ff v) (intV (G v))) : ∀ v : Int, 0 ≤ v → v < n → SqT K H2 (ff v) (intV (G v)) := fun v a b => g _ _ (h v a b)
def DTup (K : Frag) (H : Hp) (n : Nat) (d : Int → Due) (h : Int → V) : Prop := ∀ v : Int, 0 ≤ v → v < n → DueV K H (d v) (h v)
theorem DTup.keep {K : Frag} {H H2 : Hp} {n : Nat} {d : Int → Due} {h : Int → V} (g : ∀ p xs, SqT K H p xs → SqT K H2 p xs) (q : DTup K H n d h) : DTup K H2 n d h := fun v a b => by
  have := q v a b
  cases e : d v with
  | no => rw [e] at this; exact this
  | chips x => rw [e] at this; obtain ⟨a, e1, h1⟩ := this; exact ⟨a, e1, g _ _ h1⟩
  | less x => rw [e] at this; obtain ⟨a, e1, h1⟩ := this; exact ⟨a, e1, g _ _ h1⟩
def sp_Web___init__ (K : Frag) : Sp := fun vs H Q _ => ∃ H0 x dx f s m d L ff fs, vs = [.ref x, .ref f, .ref s, .ref m, .ref d] ∧ Fill H0 H x (gW K) dx [] ∧ RawW K H0 f s m d L ff fs ∧ ∀ H' A, Ex H0 H' → WebAt K H' x (wSrt L) A → Q .non H'
/-! Web.__init__ -/
abbrev N_Web___init__ : List Str := ["self", "first", "second", "marks", "dues", "web_steps", "web_due", "web_at"]
abbrev s_Web___init__ : Stmt := inClass (top 32) 1
theorem sc_Web___init__ : FnScope N_Web___init__ ["self", "first", "second", "marks", "dues"] (defScope s_Web___init__) := ⟨rfl, rfl, rfl, by decide +kernel, rfl, by decide +kernel, by decide +kernel⟩
def t_Web___init__ (K : Frag) (w : World) : TS := (tSeq (tDrop (tFn (sp__look_kinds K) (tCons (tVar 1) (tCons (tVar 2) (tCons (tVar 3) (tCons (tVar 4) tNil))))))
    (tSeq (tDrop (tFn (sp__look_web K) (tCons (tVar 1) (tCons (tVar 2) (tCons (tVar 3) (tCons (tVar 4) tNil))))))
    (tSeq (sSl K (tVar 0) (tCB (rTupS K) (tCons (tLc (iSeq K (tVar 1)) (gName 5) tYes (tCB (rTupS K) (tCons (tCB (rSortedSet w) (tCons (tCB (rSetA K w) (tCons (tVar 5) tNil)) tNil)) tNil)) [5]) tNil)) "_first")
    (tSeq (sSl K (tVar 0) (tCB (rTupS K) (tCons (tLc (iSeq K (tVar 2)) (gName 5) tYes (tCB (rTupS K) (tCons (tCB (rSortedSet w) (tCons (tCB (rSetA K w) (tCons (tVar 5) tNil)) tNil)) tNil)) [5]) tNil)) "_second")
    (tSeq (sSl K (tVar 0) (tCB (rTupS K) (tCons (tVar 3) tNil)) "_marks")
    (tSeq (sSl K (tVar 0) (tCB (rTupS K) (tCons (tLc (iSeq K (tVar 4)) (gName 6) tYes (tFn (sp_kept_due K) (tCons (tVar 6) tNil)) [6]) tNil)) "_dues")
    (tSeq (sSl K (tVar 0) (tCB (rTupS K) (tCons (tLc (iRng1 (tCons (tCB (rLenS K) (tCons (tVar 3) tNil)) tNil)) (gName 7) (tNot (tTru K (tOp (rIx K) (tVar 1) (tVar 7)))) (tVar 7) [7]) tNil)) "_ends")
    (tSeq (sSl K (tVar 0) (tCB (rTupS K) (tCons (tLc (iRng1 (tCons (tCB (rLenS K) (tCons (tVar 3) tNil)) tNil)) (gName 7) (tTru K (tOp (rIx K) (tVar 1) (tVar 7))) (tVar 7) [7]) tNil)) "_moving")
    (sSl K (tVar 0) (tCB (rMax K) (tCons (tOp rCat (tLst (tCons (tC (.int 0)) tNil)) (tLc (iSeq K (tSl K (tVar 0) "_dues")) (gName 6) (tTest (tOp rNotN (tVar 6) (tC .non))) (tOp (rIx K) (tVar 6) (tC (.int 1))) [6])) tNil)) "_greatest_due")))))))))
theorem lenRan {K : Frag} {H : Hp} {σ : L2.St} {ta : TE} {p : Addr} {n : Nat} {g : Int → V} (h1 : Ev ta σ H (.ref p)) (h2 : SqA K H p ((ran n).map g)) : Ev (tCB (rLenS K) (tCons ta tNil)) σ H (.int (n : Int)) := by
  have := ev_len' h1 h2
  rw [ranV_len] at this
  exact this
section
variable {w : World} {K : Frag} {mg : Str → Option Value} {vs : List V} {H : Hp} {Q : VK} {E : XK}
theorem len_Web___init__ (h : sp_Web___init__ K vs H Q E) : vs.length = 5 := by obtain ⟨H0, x, dx, f, s, m, d, L, ff, fs, rfl, _⟩ := h; rfl
theorem pure_Web___init__ (T : Txt w K mg) (h : sp_Web___init__ K vs H Q E) : t_Web___init__ K w (E1 Q) (start N_Web___init__ vs) H := by
  obtain ⟨H0, x, dx, f, s, m, d, L, ff, fs, rfl, F, hr, q⟩ := h
  have hn := hr.n60
  have hpos := hr.ok.pos
  have nd := T.ndW
  simp only [slW, List.map_cons, List.map_nil, List.nodup_cons, List.mem_cons, List.not_mem_nil, or_false, not_or] at nd
  obtain ⟨⟨nfs, nfm, nfd, nfe, nfv, nfg⟩, ⟨nsm, nsd, nse, nsv, nsg⟩, ⟨nmd, nme, nmv, nmg⟩, ⟨nde, ndv, ndg⟩, ⟨nev, neg⟩, nvg, _⟩ := nd
  have e0 := F.ex
  refine q_drop (ev_fn (z := .non) (ea_cons (ev_var rfl) (ea_cons (ev_var rfl) (ea_cons (ev_var rfl) (ea_cons (ev_var rfl) ea_nil)))) fun H1 e1 Q q E => ⟨f, s, m, d, L, ff, fs, rfl, hr.mono (e0.trans e1), fun H2 e2 => q H2 e2⟩) fun H1 e1 => ?_
  refine q_drop (ev_fn (z := .non) (ea_cons (ev_var rfl) (ea_cons (ev_var rfl) (ea_cons (ev_var rfl) (ea_cons (ev_var rfl) ea_nil)))) fun H2 e2 Q q E => ⟨f, s, m, d, L, ff, fs, rfl, hr.mono ((e0.trans e1).trans e2), fun H3 e3 => q H3 e3⟩) fun H2 e2 => ?_
  have F2 := F.mono (e1.trans e2)
  have hr2 := hr.mono F2.ex
  refine q_sl F2 (evx_sorts (w := w) (G := L.F) (ev_var rfl) hr2.hf hr2.ff (fun v x a b h => hr.ok.fr v x a b h) hn (fun _ => rfl) (fun _ => rfl)) (ev_var rfl) T.sclW (T.sW (memOf 0 rfl)) fun y H3 H4 e3 ⟨pf, af, ey, hpf, haf⟩ F4 g4 => ?_
  subst ey
  have hpf4 := g4 _ _ hpf
  have haf4 := ex_sqs g4 haf
  have hr4 := hr.mono F4.ex
  refine q_sl F4 (evx_sorts (w := w) (G := L.S) (ev_var rfl) hr4.hs hr4.fs (fun v x a b h => hr.ok.sr v x a b h) hn (fun _ => rfl) (fun _ => rfl)) (ev_var rfl) T.sclW (T.sW (memOf 1 rfl)) fun y H5 H6 e5 ⟨ps, as, ey, hps, has⟩ F6 g6 => ?_
  subst ey
  have k6 : ∀ p xs, SqT K H4 p xs → SqT K H6 p xs := fun p xs h => g6 _ _ (ex_t e5 h)
  have hps6 := g6 _ _ hps
  have has6 := ex_sqs g6 has
  have hr6 := hr.mono F6.ex
  refine q_sl F6 (evx_tupA (ev_var rfl) hr6.hm) (ev_var rfl) T.sclW (T.sW (memOf 2 rfl)) fun y H7 H8 e7 ⟨pm, ey, hpm⟩ F8 g8 => ?_
  subst ey
  have k8 : ∀ p xs, SqT K H6 p xs → SqT K H8 p xs := fun p xs h => g8 _ _ (ex_t e7 h)
  have hpm8 := g8 _ _ hpm
  have hr8 := hr.mono F8.ex
  obtain ⟨gd, hgd, hgv⟩ := hr8.hd
  refine q_sl F8 (evx_tupR (Pe := fun v y H' => DueV K H' (L.due v) y) (ev_var rfl) hgd hn (fun _ => rfl) (fun v H9 e9 h0 h1 => evx_fn (ea_cons (ev_var rfl) ea_nil) fun H10 e10 Q q E => ⟨gd v, L.due v, rfl, (hgv v h0 h1).mono (e9.trans e10), fun u H' e hu => q u H' e hu⟩) (fun a v H1 H2 e h => h.mono e) (fun a v H1 D zs o hD h => h.updL hD)) (ev_var rfl) T.sclW (T.sW (memOf 3 rfl)) fun y H9 H10 e9 ⟨pd, hd, ey, hpd, hhd⟩ F10 g10 => ?_
  subst ey
  have k10 : ∀ p xs, SqT K H8 p xs → SqT K H10 p xs := fun p xs h => g10 _ _ (ex_t e9 h)
  have hpd10 := g10 _ _ hpd
  have hdt10 : DTup K H10 L.n L.due hd := DTup.keep g10 hhd
  have hr10 := hr.mono F10.ex
  have tst : ∀ {H' : Hp} {σ : L2.St} (r : RawW K H' f s m d L ff fs) (v : Int), σ[1]? = some (some (.ref f)) → σ[7]? = some (some (.int v)) → 0 ≤ v → v < L.n → EvT (tTru K (tOp (rIx K) (tVar 1) (tVar 7))) σ H' (L.mov v) := fun r v z1 z2 h0 h1 => by
    have := et_tru (ev_ix (ev_var z1) (ev_var z2) r.hf (atI_ran h0 h1)) (.l (r.ff v h0 h1).1)
    have e : (!(intV (L.F v)).isEmpty) = L.mov v := by
      unfold Wb.mov intV
      cases L.F v <;> rfl
    rw [e] at this
    exact this
  refine q_sl F10 (evx_tupL (el_lrF (n := L.n) (p := fun v => !L.mov v) (ea_cons (ev_lenR (ev_var rfl) hr10.hm) ea_nil) (by omega) (fun _ => rfl) (fun v H11 e11 h0 h1 => et_not (tst (hr10.mono e11) v rfl rfl h0 h1)) (fun _ _ => ev_var rfl))) (ev_var rfl) T.sclW (T.sW (memOf 4 rfl)) fun y H11 H12 e11 ⟨pe, ey, hpe⟩ F12 g12 => ?_
  subst ey
  have k12 : ∀ p xs, SqT K H10 p xs → SqT K H12 p xs := fun p xs h => g12 _ _ (ex_t e11 h)
  have hr12 := hr.mono F12.ex
  refine q_sl F12 (evx_tupL (el_lrF (n := L.n) (p := L.mov) (ea_cons (ev_lenR (ev_var rfl) hr12.hm) ea_nil) (by omega) (fun _ => rfl) (fun v H13 e13 h0 h1 => tst (hr12.mono e13) v rfl rfl h0 h1) (fun _ _ => ev_var rfl))) (ev_var rfl) T.sclW (T.sW (memOf 5 rfl)) fun y H13 H14 e13 ⟨pv, ey, hpv⟩ F14 g14 => ?_
  subst ey
  have k14 : ∀ p xs, SqT K H12 p xs → SqT K H14 p xs := fun p xs h => g14 _ _ (ex_t e13 h)
  have hpv14 := g14 _ _ hpv
  have hpd14 := k14 _ _ (k12 _ _ hpd10)
  have hdt14 := DTup.keep k14 (DTup.keep k12 hdt10)
  have hmax : Ev (tCB (rMax K) (tCons (tOp rCat (tLst (tCons (tC (.int 0)) tNil)) (tLc (iSeq K (tSl K (tVar 0) "_dues")) (gName 6) (tTest (tOp rNotN (tVar 6) (tC .non))) (tOp (rIx K) (tVar 6) (tC (.int 1))) [6])) tNil)) (start N_Web___init__ [.ref x, .ref f, .ref s, .ref m, .ref d]) H14 (.int (maxOf ([0] ++ (((ran L.n).filter fun v => !decide (hd v = .non)).map fun v => dueX (L.due v))))) := by
    have el := el_lc (K := K) (σ := start N_Web___init__ [.ref x, .ref f, .ref s, .ref m, .ref d]) (H := H14) (tl := tSl K (tVar 0) "_dues") (t := tTest (tOp rNotN (tVar 6) (tC .non))) (te := tOp (rIx K) (tVar 6) (tC (.int 1))) (j := 6) (ws := [6]) (l := ran L.n) (emb := hd) (f := fun v => !decide (hd v = .non)) (g := fun v => V.int (dueX (L.due v)))
      (ea_of (ev_sl (ev_var rfl) F14.sl T.sclW (T.sW (memOf 3 rfl)) (by rw [putS_ne ndv, putS_ne nde]; exact putS_get _ _ _)) (.t hpd14)) (by rw [ran_len]; omega) (fun _ => rfl) (fun v H15 e15 hv => et_test (ev_notN (ev_var rfl))) (fun v H15 e15 hv hne => ?_)
    · have el2 : EvL (tLc (iSeq K (tSl K (tVar 0) "_dues")) (gName 6) (tTest (tOp rNotN (tVar 6) (tC .non))) (tOp (rIx K) (tVar 6) (tC (.int 1))) [6]) (start N_Web___init__ [.ref x, .ref f, .ref s, .ref m, .ref d]) H14 (intV (((ran L.n).filter fun v => !decide (hd v = .non)).map fun v => dueX (L.due v))) := by
        unfold intV
        rw [List.map_map]
        exact el
      have hcat := evx_catLL (el_lst (vs := [V.int 0]) (ea_cons ev_c ea_nil) (by show 1 ≤ 100000; decide)) el2 (by
        rw [intV_len, List.length_map]
        have := filter_len (l := ran L.n) (f := fun v => !decide (hd v = .non)) (Nat.le_of_eq (ran_len L.n))
        show 1 + _ ≤ _
        omega)
      have e9 : [V.int 0] ++ intV (((ran L.n).filter fun v => !decide (hd v = .non)).map fun v => dueX (L.due v)) = intV ([0] ++ (((ran L.n).filter fun v => !decide (hd v = .non)).map fun v => dueX (L.due v))) := rfl
      rw [e9] at hcat
      exact ev_maxL hcat (fun z => by cases z)
    · obtain ⟨h0, h1⟩ := mem_ran.mp hv
      rcases ((hdt14 v h0 h1).mono e15).cases with ⟨_, hv⟩ | ⟨a, y, z, hv, hsq, hy⟩
      · rw [hv] at hne; cases hne
      · have hyx : dueX (L.due v) = y := by
          rcases hy with ⟨e, _⟩ | ⟨e, _⟩ <;> rw [e] <;> rfl
        rw [hyx]
        exact ev_ix (p := a) (ev_var (by show some (some (hd v)) = _; rw [hv])) ev_c (.t hsq) rfl
  refine s_sl F14 (Ev.toX hmax) (ev_var rfl) T.sclW (T.sW (memOf 6 rfl)) fun y H15 H16 e15 ey F16 g16 => ?_
  subst ey
  have k16 : ∀ p xs, SqT K H14 p xs → SqT K H16 p xs := fun p xs h => g16 _ _ (ex_t e15 h)
  have k6' : ∀ p xs, SqT K H6 p xs → SqT K H16 p xs := fun p xs h => k16 _ _ (k14 _ _ (k12 _ _ (k10 _ _ (k8 _ _ h))))
  have k8' : ∀ p xs, SqT K H8 p xs → SqT K H16 p xs := fun p xs h => k16 _ _ (k14 _ _ (k12 _ _ (k10 _ _ h)))
  have k4' : ∀ p xs, SqT K H4 p xs → SqT K H16 p xs := fun p xs h => k6' _ _ (k6 _ _ h)
  generalize hws : putS (sI K (gW K) "_greatest_due") _ _ = ws at F16
  refine q H16 ⟨dx, ws, pf, ps, pm, pd, pv, af, as⟩ F16.ex ⟨wSrt_ok hr.ok, hn, F16.sl, ?_, ?_, ?_, ?_, ?_, k4' _ _ hpf4, k6' _ _ hps6, k8' _ _ hpm8, ⟨hd, k16 _ _ hpd14, DTup.keep k16 hdt14⟩, ?_, fun v a b => ⟨k4' _ _ (haf4 v a b), Nat.le_trans (srt_len _ _) hn, srt_sorted _ _⟩, fun v a b => ⟨k6' _ _ (has6 v a b), Nat.le_trans (srt_len _ _) hn, srt_sorted _ _⟩⟩
  · show ws[_]? = _
    rw [← hws, putS_ne nfg, putS_ne nfv, putS_ne nfe, putS_ne nfd, putS_ne nfm, putS_ne nfs]
    exact putS_get _ _ _
  · show ws[_]? = _
    rw [← hws, putS_ne nsg, putS_ne nsv, putS_ne nse, putS_ne nsd, putS_ne nsm]
    exact putS_get _ _ _
  · show ws[_]? = _
    rw [← hws, putS_ne nmg, putS_ne nmv, putS_ne nme, putS_ne nmd]
    exact putS_get _ _ _
  · show ws[_]? = _
    rw [← hws, putS_ne ndg, putS_ne ndv, putS_ne nde]
    exact putS_get _ _ _
  · show ws[_]? = _
    rw [← hws, putS_ne nvg]
    exact putS_get _ _ _
  · have e : (ran L.n).filter L.mov = (ran (wSrt L).n).filter (wSrt L).mov := List.filter_congr fun v hv => (wSrt_mov hr.ok (mem_ran.mp hv).1 (mem_ran.mp hv).2).symm
    rw [← e]
    exact k16 _ _ hpv14
end
theorem d_Web___init__ {P : Program} {w : World} {K : Frag} {mg : Str → Option Value} {base : Heap} (T : Txt w K mg) {f : Addr} {cdv : Value} {A : Around} {outer : List Env} {s : Shared} {H : Hp} {E : XK} (hr : Room 4 (A.deeper (envOfC "Web.__init__" (defScope s_Web___init__) s.heap.objs.size f cdv))) :
    PSs (cxOf CX0 P w K mg base N_Web___init__ "Web.__init__" (defScope s_Web___init__) f cdv A outer s H E).nox (defBody s_Web___init__) (t_Web___init__ K w) := by
  exact (pss_cons (ps_expr (pe_f (ok__look_kinds T) hr (by decide) (by rfl) (pa_cons (pv 1) (pa_cons (pv 2) (pa_cons (pv 3) (pa_cons (pv 4) pa_nil))))))
    (pss_cons (ps_expr (pe_f (ok__look_web T) hr (by decide) (by rfl) (pa_cons (pv 1) (pa_cons (pv 2) (pa_cons (pv 3) (pa_cons (pv 4) pa_nil))))))
    (pss_cons (SlPs (pv 0) (pe_callTy call_tuple_of (by rfl) (T.free (memOf 6 rfl)) b_tuple (pa_cons (pe_lc (own := [("web_steps", 5)]) (g := gName 5) (tt := tYes) (te := (tCB (rTupS K) (tCons (tCB (rSortedSet w) (tCons (tCB (rSetA K w) (tCons (tVar 5) tNil)) tNil)) tNil))) rfl sc_Web___init__.nd (pi_seq (pv 1)) (blkOk_by (N := N_Web___init__) (sc := defScope s_Web___init__) (by decide +kernel)) (fun _ _ _ _ _ => pg_name (i := 5) sc_Web___init__.nd rfl (Or.inl rfl)) (fun _ _ _ _ _ => pts_nil) (fun _ _ _ _ _ => (pe_callTy call_tuple_of (by rfl) (T.free (memOf 6 rfl)) b_tuple (pa_cons (pe_callB (cr_sortedSet rfl) (by rfl) (T.free (memOf 9 rfl)) b_sorted (pa_cons (pe_callTy (call_setA rfl) (by rfl) (T.free (memOf 8 rfl)) b_set (pa_cons (pv 5) pa_nil)) pa_nil)) pa_nil)))) pa_nil)))
    (pss_cons (SlPs (pv 0) (pe_callTy call_tuple_of (by rfl) (T.free (memOf 6 rfl)) b_tuple (pa_cons (pe_lc (own := [("web_steps", 5)]) (g := gName 5) (tt := tYes) (te := (tCB (rTupS K) (tCons (tCB (rSortedSet w) (tCons (tCB (rSetA K w) (tCons (tVar 5) tNil)) tNil)) tNil))) rfl sc_Web___init__.nd (pi_seq (pv 2)) (blkOk_by (N := N_Web___init__) (sc := defScope s_Web___init__) (by decide +kernel)) (fun _ _ _ _ _ => pg_name (i := 5) sc_Web___init__.nd rfl (Or.inl rfl)) (fun _ _ _ _ _ => pts_nil) (fun _ _ _ _ _ => (pe_callTy call_tuple_of (by rfl) (T.free (memOf 6 rfl)) b_tuple (pa_cons (pe_callB (cr_sortedSet rfl) (by rfl) (T.free (memOf 9 rfl)) b_sorted (pa_cons (pe_callTy (call_setA rfl) (by rfl) (T.free (memOf 8 rfl)) b_set (pa_cons (pv 5) pa_nil)) pa_nil)) pa_nil)))) pa_nil)))
    (pss_cons (SlPs (pv 0) (pe_callTy call_tuple_of (by rfl) (T.free (memOf 6 rfl)) b_tuple (pa_cons (pv 3) pa_nil)))
    (pss_cons (SlPs (pv 0) (pe_callTy call_tuple_of (by rfl) (T.free (memOf 6 rfl)) b_tuple (pa_cons (pe_lc (own := [("web_due", 6)]) (g := gName 6) (tt := tYes) (te := (tFn (sp_kept_due K) (tCons (tVar 6) tNil))) rfl sc_Web___init__.nd (pi_seq (pv 4)) (blkOk_by (N := N_Web___init__) (sc := defScope s_Web___init__) (by decide +kernel)) (fun _ _ _ _ _ => pg_name (i := 6) sc_Web___init__.nd rfl (Or.inl rfl)) (fun _ _ _ _ _ => pts_nil) (fun _ _ _ _ _ => (pe_f (ok_kept_due T) hr (by decide) (by rfl) (pa_cons (pv 6) pa_nil)))) pa_nil)))
    (pss_cons (SlPs (pv 0) (pe_callTy call_tuple_of (by rfl) (T.free (memOf 6 rfl)) b_tuple (pa_cons (pe_lc (own := [("web_at", 7)]) (g := gName 7) (tt := (tNot (tTru K (tOp (rIx K) (tVar 1) (tVar 7))))) (te := (tVar 7)) rfl sc_Web___init__.nd (pi_range1 (by rfl) (T.free (memOf 1 rfl)) (pa_cons (pe_callB call_len_seq (by rfl) (T.free (memOf 0 rfl)) b_len (pa_cons (pv 3) pa_nil)) pa_nil)) (blkOk_by (N := N_Web___init__) (sc := defScope s_Web___init__) (by decide +kernel)) (fun _ _ _ _ _ => pg_name (i := 7) sc_Web___init__.nd rfl (Or.inl rfl)) (fun _ _ _ _ _ => pts_one (pt_not (pt_truth (pe_ix ix_seq (pv 1) (pv 7) (fun _ _ => rfl)) (by intro _; rfl)))) (fun _ _ _ _ _ => (pv 7))) pa_nil)))
    (pss_cons (SlPs (pv 0) (pe_callTy call_tuple_of (by rfl) (T.free (memOf 6 rfl)) b_tuple (pa_cons (pe_lc (own := [("web_at", 7)]) (g := gName 7) (tt := (tTru K (tOp (rIx K) (tVar 1) (tVar 7)))) (te := (tVar 7)) rfl sc_Web___init__.nd (pi_range1 (by rfl) (T.free (memOf 1 rfl)) (pa_cons (pe_callB call_len_seq (by rfl) (T.free (memOf 0 rfl)) b_len (pa_cons (pv 3) pa_nil)) pa_nil)) (blkOk_by (N := N_Web___init__) (sc := defScope s_Web___init__) (by decide +kernel)) (fun _ _ _ _ _ => pg_name (i := 7) sc_Web___init__.nd rfl (Or.inl rfl)) (fun _ _ _ _ _ => pts_one (pt_truth (pe_ix ix_seq (pv 1) (pv 7) (fun _ _ => rfl)) (by intro _; rfl))) (fun _ _ _ _ _ => (pv 7))) pa_nil)))
    (pss_one (SlPs (pv 0) (pe_callB (cr_max rfl) (by rfl) (T.free (memOf 3 rfl)) b_max (pa_cons (pe_op op_cat (pe_lst (pa_cons pe_int pa_nil)) (pe_lc (own := [("web_due", 6)]) (g := gName 6) (tt := (tTest (tOp rNotN (tVar 6) (tC .non)))) (te := (tOp (rIx K) (tVar 6) (tC (.int 1)))) rfl sc_Web___init__.nd (pi_seq (SlPe (pv 0))) (blkOk_by (N := N_Web___init__) (sc := defScope s_Web___init__) (by decide +kernel)) (fun _ _ _ _ _ => pg_name (i := 6) sc_Web___init__.nd rfl (Or.inl rfl)) (fun _ _ _ _ _ => pts_one (pt_cmpR op_notN1 (pv 6) pe_non (nomark _))) (fun _ _ _ _ _ => (pe_ix ix_seq (pv 6) pe_int (fun _ _ => rfl))))) pa_nil))))))))))))
theorem ok_Web___init__ {P : Program} {w : World} {K : Frag} {mg : Str → Option Value} {base : Heap} (T : Txt w K mg) : FnR P w K mg base CX0 5 (He.ma K (gW K) "__init__") (sp_Web___init__ K) := by
  have F := T.def_ (d := xm_Web___init__) (memOf 18 rfl) rfl
  exact fnr_mk (k := 4) F sc_Web___init__ (fun _ _ _ _ _ _ us hl => match us, hl with | [_, _, _, _, _], _ => rfl) (fun vs H Q E h => len_Web___init__ h) (fun cdv A outer s H vs Q E hr h => ⟨t_Web___init__ K w, d_Web___init__ T hr, pure_Web___init__ T h⟩)
end Pw
end

section
set_option maxRecDepth 100000
set_option maxHeartbeats 4000000
/-! The duel. -/
namespace Pw
open PySem PySem.Spec L2 Evl StX PwS SlX
open PyProof.Rows hiding St
def sp_call_duel_look (K : Frag) : Sp := fun vs H Q _ => ∃ a W A k c C l v p m, vs = [.ref a, .int k, .ref c, .int v, .int p, .int m] ∧ WebAt K H a W A ∧ CAt K H c W C l ∧ 0 ≤ k ∧ k ≤ 60 ∧ 0 ≤ v ∧ v < W.n ∧ 0 ≤ p ∧ p ≤ k ∧ 0 ≤ m ∧ m ≤ 5000 ∧ ∀ q H' l', Ex H H' → SqT K H' q (intV l') → CAt K H' q W C l' → Q (.ref q) H'
/-! call_duel_look -/
abbrev N_call_duel_look : List Str := ["web", "k", "calls", "stand", "purse", "most", "called"]
abbrev s_call_duel_look : Stmt := top 75
theorem sc_call_duel_look : FnScope N_call_duel_look ["web", "k", "calls", "stand", "purse", "most"] (defScope s_call_duel_look) := ⟨rfl, rfl, rfl, by decide +kernel, rfl, by decide +kernel, by decide +kernel⟩
def t_call_duel_look (K : Frag) : TS := (tSeq (tDrop (tFn (sp_call_kinds K) (tCons (tVar 0) (tCons (tVar 1) (tCons (tVar 2) tNil)))))
    (tSeq (tDrop (tFn (sp_need_integer K) (tCons (tVar 3) (tCons (tC (.str "the stand")) tNil))))
    (tSeq (tDrop (tFn (sp_need_integer K) (tCons (tVar 4) (tCons (tC (.str "the purse")) tNil))))
    (tSeq (tDrop (tFn (sp_need_integer K) (tCons (tVar 5) (tCons (tC (.str "the number of moves")) tNil))))
    (tSeq (tAsg (tFn (sp_call_set K) (tCons (tVar 0) (tCons (tVar 1) (tCons (tVar 2) tNil)))) (gName 6))
    (tSeq (tDrop (tFn (sp_need_stand K) (tCons (tVar 0) (tCons (tVar 3) tNil))))
    (tSeq (tDrop (tFn (sp_need_between K) (tCons (tVar 4) (tCons (tC (.int 0)) (tCons (tVar 1) (tCons (tC (.str "the purse")) tNil))))))
    (tSeq (tDrop (tFn (sp_need_from K) (tCons (tVar 5) (tCons (tC (.int 0)) (tCons (tC (.str "the number of moves")) tNil)))))
    (tSeq (tDrop (tFn (sp_call_bounds K) (tCons (tVar 0) (tCons (tVar 1) (tCons (tVar 6) tNil)))))
    (tSeq (tDrop (tFn (sp_need_up_to K) (tCons (tVar 5) (tCons (tC (.int 5000)) (tCons (tC (.str "the number of moves")) tNil)))))
    (tRet (tVar 6))))))))))))
section
variable {w : World} {K : Frag} {mg : Str → Option Value} {vs : List V} {H : Hp} {Q : VK} {E : XK}
theorem len_call_duel_look (h : sp_call_duel_look K vs H Q E) : vs.length = 6 := by obtain ⟨a, W, A, k, c, C, l, v, p, m, rfl, _⟩ := h; rfl
theorem pure_call_duel_look (T : Txt w K mg) (h : sp_call_duel_look K vs H Q E) : t_call_duel_look K (E1 Q) (start N_call_duel_look vs) H := by
  obtain ⟨a, W, A, k, c, C, l, v, p, m, rfl, hw, hc, hk, hk2, h0, h1, h2, h3, h4, h5, q⟩ := h
  refine q_drop (ev_fn (ea_cons (ev_var rfl) (ea_cons (ev_var rfl) (ea_cons (ev_var rfl) ea_nil))) (spv_call_kinds hw hc.sq)) fun H1 e1 => ?_
  refine q_drop (ev_fn (ea_cons (ev_var rfl) (ea_cons ev_c ea_nil)) spv_need_integer) fun H2 e2 => ?_
  refine q_drop (ev_fn (ea_cons (ev_var rfl) (ea_cons ev_c ea_nil)) spv_need_integer) fun H3 e3 => ?_
  refine q_drop (ev_fn (ea_cons (ev_var rfl) (ea_cons ev_c ea_nil)) spv_need_integer) fun H4 e4 => ?_
  have e14 := (e1.trans e2).trans (e3.trans e4)
  refine q_asgX (evx_fn (ea_cons (ev_var rfl) (ea_cons (ev_var rfl) (ea_cons (ev_var rfl) ea_nil))) (spx_call_set (hw.mono e14) hk (hc.mono e14))) fun y H5 e5 ⟨pc, lc, ey, hpc, hcc⟩ => ?_
  subst ey
  have hw5 := hw.mono (e14.trans e5)
  refine q_drop (ev_fn (ea_cons (ev_var rfl) (ea_cons (ev_var rfl) ea_nil)) (spv_need_stand hw5 h0 h1)) fun H6 e6 => ?_
  refine q_drop (ev_fn (ea_cons (ev_var rfl) (ea_cons ev_c (ea_cons (ev_var rfl) (ea_cons ev_c ea_nil)))) (spv_need_between h2 h3)) fun H7 e7 => ?_
  refine q_drop (ev_fn (ea_cons (ev_var rfl) (ea_cons ev_c (ea_cons ev_c ea_nil))) (spv_need_from h4)) fun H8 e8 => ?_
  have e58 := e6.trans (e7.trans e8)
  refine q_drop (ev_fn (ea_cons (ev_var rfl) (ea_cons (ev_var rfl) (ea_cons (ev_var rfl) ea_nil))) (spv_call_bounds (hw5.mono e58) (hcc.mono e58) hk2)) fun H9 e9 => ?_
  refine q_drop (ev_fn (ea_cons (ev_var rfl) (ea_cons ev_c (ea_cons ev_c ea_nil))) (spv_need_up_to h5)) fun H10 e10 => ?_
  have e50 := e58.trans (e9.trans e10)
  exact s_ret (ev_var rfl) fun H11 e11 => q pc H11 lc ((e14.trans e5).trans (e50.trans e11)) (ex_t (e50.trans e11) hpc) (hcc.mono (e50.trans e11))
end
theorem d_call_duel_look {w : World} {K : Frag} {mg : Str → Option Value} {base : Heap} (T : Txt w K mg) {f : Addr} {cdv : Value} {A : Around} {outer : List Env} {s : Shared} {H : Hp} {E : XK} (hr : Room 5 (A.deeper (envOfC "call_duel_look" (defScope s_call_duel_look) s.heap.objs.size f cdv))) :
    PSs (cxOf CX0 PP w K mg base N_call_duel_look "call_duel_look" (defScope s_call_duel_look) f cdv A outer s H E).nox (defBody s_call_duel_look) (t_call_duel_look K) := by
  obtain ⟨_, hDUEL_MOVES⟩ := T.ints (memOf 4 rfl : (("DUEL_MOVES" : Str), (5000 : Int)) ∈ intsG)
  exact (pss_cons (ps_expr (pe_f (ok_call_kinds T) hr (by decide) (by rfl) (pa_cons (pv 0) (pa_cons (pv 1) (pa_cons (pv 2) pa_nil)))))
    (pss_cons (ps_expr (pe_f (ok_need_integer T) hr (by decide) (by rfl) (pa_cons (pv 3) (pa_cons pe_str pa_nil))))
    (pss_cons (ps_expr (pe_f (ok_need_integer T) hr (by decide) (by rfl) (pa_cons (pv 4) (pa_cons pe_str pa_nil))))
    (pss_cons (ps_expr (pe_f (ok_need_integer T) hr (by decide) (by rfl) (pa_cons (pv 5) (pa_cons pe_str pa_nil))))
    (pss_cons (ps_set (i := 6) sc_call_duel_look.nd rfl (Or.inl rfl) (pe_f (ok_call_set T) hr (by decide) (by rfl) (pa_cons (pv 0) (pa_cons (pv 1) (pa_cons (pv 2) pa_nil)))))
    (pss_cons (ps_expr (pe_f (ok_need_stand T) hr (by decide) (by rfl) (pa_cons (pv 0) (pa_cons (pv 3) pa_nil))))
    (pss_cons (ps_expr (pe_f (ok_need_between T) hr (by decide) (by rfl) (pa_cons (pv 4) (pa_cons pe_int (pa_cons (pv 1) (pa_cons pe_str pa_nil))))))
    (pss_cons (ps_expr (pe_f (ok_need_from T) hr (by decide) (by rfl) (pa_cons (pv 5) (pa_cons pe_int (pa_cons pe_str pa_nil)))))
    (pss_cons (ps_expr (pe_f (ok_call_bounds T) hr (by decide) (by rfl) (pa_cons (pv 0) (pa_cons (pv 1) (pa_cons (pv 6) pa_nil)))))
    (pss_cons (ps_expr (pe_f (ok_need_up_to T) hr (by decide) (by rfl) (pa_cons (pv 5) (pa_cons (pe_glob (v := .int 5000) (by rfl) hDUEL_MOVES ⟨_, rfl⟩) (pa_cons pe_str pa_nil)))))
    (pss_one (ps_ret (pv 6)))))))))))))
theorem ok_call_duel_look {w : World} {K : Frag} {mg : Str → Option Value} {base : Heap} (T : Txt w K mg) : GF PP w K mg base "call_duel_look" 6 (sp_call_duel_look K) := by
  have F := T.def_ (d := xf_call_duel_look) (memOf 69 rfl) rfl
  refine ⟨fnr_mk (k := 5) F sc_call_duel_look (fun _ _ _ _ _ _ us hl => match us, hl with | [_, _, _, _, _, _], _ => rfl) (fun vs H Q E h => len_call_duel_look h) (fun cdv A outer s H vs Q E hr h => ⟨t_call_duel_look K, d_call_duel_look T hr, pure_call_duel_look T h⟩), ?_, T.glo (memOf 43 rfl)⟩
  obtain ⟨fd, F⟩ := F
  exact F.kp
theorem spx_call_duel_look {K : Frag} {H : Hp} {a c : Addr} {W : Wb} {A : WA} {k v p m : Int} {C : Int → Bool} {l : List Int} (hw : WebAt K H a W A) (hc : CAt K H c W C l) (hk : 0 ≤ k) (hk2 : k ≤ 60) (h0 : 0 ≤ v) (h1 : v < W.n) (h2 : 0 ≤ p) (h3 : p ≤ k) (h4 : 0 ≤ m) (h5 : m ≤ 5000) :
    SpX (sp_call_duel_look K) [.ref a, .int k, .ref c, .int v, .int p, .int m] H (fun y H' => ∃ q l', y = .ref q ∧ SqT K H' q (intV l') ∧ CAt K H' q W C l') := fun H1 e Q qq E => ⟨a, W, A, k, c, C, l, v, p, m, rfl, hw.mono e, hc.mono e, hk, hk2, h0, h1, h2, h3, h4, h5, fun q H2 l' e2 hq hl => qq _ H2 e2 ⟨q, l', rfl, hq, hl⟩⟩
/-- both plans made -/
theorem evx_mk1 {K : Frag} {σ : L2.St} {H : Hp} {ta : TE} {p : Addr} {W : Wb} {C : Int → Bool} {k : Int} {X rk ct : Int → Int} {B : PA'} (ha : Ev ta σ H (.ref p)) (hp : PapAt K H p W C k X rk ct B) : EvX (tMakeR (g1 K) (sp_CallFirst___init__ K) E0 (tCons ta tNil)) σ H (fun y H' => ∃ q, y = .ref q ∧ PlQ K (g1 K) H' q W C k X rk ct) :=
  evx_mk (EvA.toX (ea_cons ha ea_nil)) fun vs H1 x dx e1 ev h1 h2 h3 Q qq => by
    subst ev
    refine ⟨H1, x, dx, p, W, C, k, X, rk, ct, B, rfl, Ex.mut (Ex.mut (Ex.refl _) h2) h1, h1, upd_same, hp.mono e1, fun H' r e h => qq H' e ⟨x, rfl, dx, r, p, B, h⟩⟩
theorem evx_mk2 {K : Frag} {σ : L2.St} {H : Hp} {ta : TE} {p : Addr} {W : Wb} {C : Int → Bool} {k : Int} {X rk ct : Int → Int} {B : PA'} (ha : Ev ta σ H (.ref p)) (hp : PapAt K H p W C k X rk ct B) : EvX (tMakeR (g2 K) (sp_CallSecond___init__ K) E0 (tCons ta tNil)) σ H (fun y H' => ∃ q, y = .ref q ∧ PlQ K (g2 K) H' q W C k X rk ct) :=
  evx_mk (EvA.toX (ea_cons ha ea_nil)) fun vs H1 x dx e1 ev h1 h2 h3 Q qq => by
    subst ev
    refine ⟨H1, x, dx, p, W, C, k, X, rk, ct, B, rfl, Ex.mut (Ex.mut (Ex.refl _) h2) h1, h1, upd_same, hp.mono e1, fun H' r e h => qq H' e ⟨x, rfl, dx, r, p, B, h⟩⟩
theorem evx_call1 {K : Frag} {σ : L2.St} {H : Hp} {ta tb tc : TE} {q : Addr} {W : Wb} {C : Int → Bool} {k : Int} {X rk ct : Int → Int} {v a : Int} (ha : Ev ta σ H (.ref q)) (h : PlQ K (g1 K) H q W C k X rk ct) (hb : Ev tb σ H (.int v)) (hc : Ev tc σ H (.int a)) (h0 : 0 ≤ v) (h1 : v < W.n) (hm : W.mov v = true) (h2 : 0 ≤ a) (h3 : a ≤ k) :
    EvX (tCallI (g1 K) (sp_CallFirst___call__ K) ta (tCons tb (tCons tc tNil))) σ H (fun y H' => ∃ p, y = .ref p ∧ SqT K H' p [.int (fBid W C X rk v a), .int (fStep W C X rk v a)]) := by
  obtain ⟨dx, r, p, B, hp⟩ := h
  exact evx_callI ha hp.at_ (ea_cons hb (ea_cons hc ea_nil)) fun H1 e1 Q qq E => ⟨q, W, C, k, X, rk, ct, v, a, rfl, ⟨dx, r, p, B, hp.mono e1⟩, h0, h1, hm, h2, h3, fun pp H2 e2 h => qq _ H2 e2 ⟨pp, rfl, h⟩⟩
theorem evx_call2 {K : Frag} {σ : L2.St} {H : Hp} {ta tb tc : TE} {q : Addr} {W : Wb} {C : Int → Bool} {k : Int} {X rk ct : Int → Int} {v a : Int} (ha : Ev ta σ H (.ref q)) (h : PlQ K (g2 K) H q W C k X rk ct) (hb : Ev tb σ H (.int v)) (hc : Ev tc σ H (.int a)) (h0 : 0 ≤ v) (h1 : v < W.n) (hm : W.mov v = true) (h2 : 0 ≤ a) (h3 : a ≤ k) :
    EvX (tCallI (g2 K) (sp_CallSecond___call__ K) ta (tCons tb (tCons tc tNil))) σ H (fun y H' => ∃ p, y = .ref p ∧ SqT K H' p [.int (sBid W C k X ct v a), .int (sStep W C X ct v a)]) := by
  obtain ⟨dx, r, p, B, hp⟩ := h
  exact evx_callI ha hp.at_ (ea_cons hb (ea_cons hc ea_nil)) fun H1 e1 Q qq E => ⟨q, W, C, k, X, rk, ct, v, a, rfl, ⟨dx, r, p, B, hp.mono e1⟩, h0, h1, hm, h2, h3, fun pp H2 e2 h => qq _ H2 e2 ⟨pp, rfl, h⟩⟩
theorem spx_outcome {K : Frag} {H : Hp} {W : Wb} {v a p q : Int} : SpX (sp_outcome_of K) [.int (W.mark v), .int a, .int p, .int q] H (fun y H' => ∃ pp, y = .ref pp ∧ SqT K H' pp [.int (if q < p ∨ (p = q ∧ W.mark v = 1) then 1 else 2), .int (movA W v a p q)]) :=
  fun H1 e Q qq E => ⟨W.mark v, a, p, q, rfl, fun pp H2 e2 h => qq _ H2 e2 ⟨pp, rfl, h⟩⟩
theorem q_par {i j : Nat} {σ : L2.St} {H : Hp} {ta tb : TE} {tz : TS} {D : Ends} {P1 P2 : V → Hp → Prop} (ha : EvX ta σ H P1) (hb : ∀ x H1, Ex H H1 → P1 x H1 → EvX tb σ H1 P2) (k : ∀ x y H1 H2, Ex H H1 → Ex H1 H2 → P1 x H1 → P2 y H2 → tz D ((σ.set i (some x)).set j (some y)) H2) : tSeq (tPar i j (tCons ta (tCons tb tNil))) tz D σ H :=
  ha H (Ex.refl _) _ fun x H1 e1 p1 => hb x H1 e1 p1 H1 (Ex.refl _) _ fun y H2 e2 p2 => ⟨x, y, rfl, k x y H1 H2 e1 e2 p1 p2⟩
def dWord (W : Wb) (k : Int) (s : DS) : V := if W.mov s.v = true then .str "going" else if dueAt (W.due s.v) (k + 1) ≤ s.a then .str "paid" else .str "lost"
def sp_call_duel (K : Frag) : Sp := fun vs H Q _ => ∃ a W A k c C l v p m, vs = [.ref a, .int k, .ref c, .int v, .int p, .int m] ∧ WebAt K H a W A ∧ CAt K H c W C l ∧ 0 ≤ k ∧ k ≤ 60 ∧ 0 ≤ v ∧ v < W.n ∧ 0 ≤ p ∧ p ≤ k ∧ 0 ≤ m ∧ m ≤ 5000 ∧
  ∀ q H', Ex H H' → SqT K H' q [.int (dRun W C k (eX W C k) (eR W C k) (eC W C k) v p m.toNat).vis, dWord W k (dRun W C k (eX W C k) (eR W C k) (eC W C k) v p m.toNat), .int (dRun W C k (eX W C k) (eR W C k) (eC W C k) v p m.toNat).mov] → Q (.ref q) H'
/-! call_duel -/
abbrev N_call_duel : List Str := ["web", "k", "calls", "stand", "purse", "most", "called", "paper", "first", "second", "moves", "visits", "p", "step", "q", "other", "hand"]
abbrev s_call_duel : Stmt := top 76
theorem sc_call_duel : FnScope N_call_duel ["web", "k", "calls", "stand", "purse", "most"] (defScope s_call_duel) := ⟨rfl, rfl, rfl, by decide +kernel, rfl, by decide +kernel, by decide +kernel⟩
def t_call_duel (K : Frag) : TS := (tSeq (tAsg (tFn (sp_call_duel_look K) (tCons (tVar 0) (tCons (tVar 1) (tCons (tVar 2) (tCons (tVar 3) (tCons (tVar 4) (tCons (tVar 5) tNil))))))) (gName 6))
    (tSeq (tAsg (ClX.tCMeth (gP K) (sp_CallPaper_of K) E0 (tC (.ref (gP K))) (tCons (tVar 0) (tCons (tVar 1) (tCons (tVar 6) tNil)))) (gName 7))
    (tSeq (tPar 8 9 (tCons (tMakeR (g1 K) (sp_CallFirst___init__ K) E0 (tCons (tVar 7) tNil)) (tCons (tMakeR (g2 K) (sp_CallSecond___init__ K) E0 (tCons (tVar 7) tNil)) tNil)))
    (tSeq (tAsg (tC (.int 0)) (gName 10))
    (tSeq (tAsg (tIf (tTest (tOp (rIn K false) (tVar 3) (tVar 6))) (tC (.int 1)) (tC (.int 0))) (gName 11))
    (tSeq (tWhile (tAnd (tTest (tOp rLt (tVar 10) (tVar 5))) (tTru K (tOp (rIx K) (tPW_first K (tVar 0)) (tVar 3)))) (tSeq (tAsg (tCallI (g1 K) (sp_CallFirst___call__ K) (tVar 8) (tCons (tVar 3) (tCons (tVar 4) tNil))) (gTup K 2 (gCons (gName 12) (gCons (gName 13) gNil))))
    (tSeq (tAsg (tCallI (g2 K) (sp_CallSecond___call__ K) (tVar 9) (tCons (tVar 3) (tCons (tVar 4) tNil))) (gTup K 2 (gCons (gName 14) (gCons (gName 15) gNil))))
    (tSeq (tAsg (tFn (sp_outcome_of K) (tCons (tOp (rIx K) (tPW_marks K (tVar 0)) (tVar 3)) (tCons (tVar 4) (tCons (tVar 12) (tCons (tVar 14) tNil))))) (gTup K 2 (gCons (gName 16) (gCons (gName 4) gNil))))
    (tSeq (tAsg (tIf (tTest (tOp rEq (tVar 16) (tC (.int 1)))) (tVar 13) (tVar 15)) (gName 3))
    (tSeq (tAug 10 (tC (.int 1)) (ipI fun i j => i + j))
    (tIfS (tTest (tOp (rIn K false) (tVar 3) (tVar 6))) (tAug 11 (tC (.int 1)) (ipI fun i j => i + j)) tNext)))))))
    (tSeq (tIfS (tTru K (tOp (rIx K) (tPW_first K (tVar 0)) (tVar 3))) (tRet (tTup (tCons (tVar 11) (tCons (tC (.str "going")) (tCons (tVar 10) tNil))))) tNext)
    (tRet (tTup (tCons (tVar 11) (tCons (tIf (tTest (tOp rGe (tVar 4) (tFn (sp_due_at K) (tCons (tOp (rIx K) (tPW_dues K (tVar 0)) (tVar 3)) (tCons (tVar 1) tNil))))) (tC (.str "paid")) (tC (.str "lost"))) (tCons (tVar 10) tNil))))))))))))
section
variable {w : World} {K : Frag} {mg : Str → Option Value} {vs : List V} {H : Hp} {Q : VK} {E : XK}
theorem len_call_duel (h : sp_call_duel K vs H Q E) : vs.length = 6 := by obtain ⟨a, W, A, k, c, C, l, v, p, m, rfl, _⟩ := h; rfl
theorem pure_call_duel (T : Txt w K mg) (h : sp_call_duel K vs H Q E) : t_call_duel K (E1 Q) (start N_call_duel vs) H := by
  obtain ⟨a, W, A, k, c, C, l, v, p, m, rfl, hw, hc, hk, hk2, h0, h1, h2, h3, h4, h5, q⟩ := h
  have ok := hw.ok
  refine q_asgX (evx_fn (ea_cons (ev_var rfl) (ea_cons (ev_var rfl) (ea_cons (ev_var rfl) (ea_cons (ev_var rfl) (ea_cons (ev_var rfl) (ea_cons (ev_var rfl) ea_nil)))))) (spx_call_duel_look hw hc hk hk2 h0 h1 h2 h3 h4 h5)) fun y H1 e1 ⟨pc, lc, ey, hpc, hcc⟩ => ?_
  subst ey
  refine q_asgX (P := fun y H' => ∃ p B, y = .ref p ∧ IsEver W C (k + 1) (eX W C k) ∧ B.a = a ∧ PapAt K H' p W C k (eX W C k) (eR W C k) (eC W C k) B) (fun H2 e2 Q2 q2 => ⟨rfl, ea_cons (ev_var rfl) (ea_cons (ev_var rfl) (ea_cons (ev_var rfl) ea_nil)) H2 e2 _ fun H3 e3 => spx_CallPaper_of ((hw.mono e1).mono (e2.trans e3)) (hcc.mono (e2.trans e3)) hk hk2 H3 (Ex.refl _) Q2 (fun y H4 e4 hp => q2 y H4 (e3.trans e4) hp) E0⟩) fun y H2 e2 ⟨pp, B, ey, hX, hB, hpp⟩ => ?_
  subst ey
  refine q_par (evx_mk1 (ev_var rfl) hpp) (fun x H3 e3 _ => evx_mk2 (ev_var rfl) (hpp.mono e3)) fun y1 y2 H3a H3 e3a e3b ⟨q1, ey1, hq1⟩ ⟨q2, ey2, hq2⟩ => ?_
  subst ey1
  subst ey2
  have e3 := e3a.trans e3b
  have hq1 := hq1.mono e3b
  have e13 := e1.trans (e2.trans e3)
  have hcc3 := hcc.mono (e2.trans e3)
  refine q_asg ev_c fun H4 e4 => ?_
  refine q_asg (v := .int (cb C v)) (ev_pick (et_test (ev_inC (ev_var rfl) (ev_var rfl) (hcc3.mono e4))) ev_c ev_c) fun H5 e5 => ?_
  have e35 := e4.trans e5
  have rin := fun i => dRun_in ok (C := C) (X := eX W C k) (rk := eR W C k) (ct := eC W C k) ⟨h0, h1, h2, h3⟩ i
  refine q_while (fun mm σ' H' => ∃ i : Nat, mm = m.toNat - i ∧ i ≤ m.toNat ∧ (dRun W C k (eX W C k) (eR W C k) (eC W C k) v p i).mov = i ∧ Ex H3 H' ∧ ∃ v12 v13 v14 v15 v16, σ' = [some (.ref a), some (.int k), some (.ref c), some (.int (dRun W C k (eX W C k) (eR W C k) (eC W C k) v p i).v), some (.int (dRun W C k (eX W C k) (eR W C k) (eC W C k) v p i).a), some (.int m), some (.ref pc), some (.ref pp), some (.ref q1), some (.ref q2), some (.int (i : Int)), some (.int (dRun W C k (eX W C k) (eR W C k) (eC W C k) v p i).vis), v12, v13, v14, v15, v16]) (m.toNat)
    ⟨0, rfl, Nat.zero_le _, rfl, e35, none, none, none, none, none, rfl⟩ ?_
  rintro mm σ' H6 ⟨i, rfl, him, hmv, e6, v12, v13, v14, v15, v16, rfl⟩
  have hin := rin i
  generalize hs : dRun W C k (eX W C k) (eR W C k) (eC W C k) v p i = s at hin hmv
  obtain ⟨i0, i1, i2, i3⟩ := hin
  have hw6 := (hw.mono e13).mono e6
  refine ⟨_, et_and (et_test (ev_I (ev_var rfl) (ev_var rfl))) fun _ => et_Wmov (ev_var rfl) hw6 (ev_var rfl) i0 i1, fun hb H7 e7 => ⟨_, fun σ2 H2 h => h, ?_⟩, fun hb H7 e7 => ?_⟩
  · have hb2 : (i : Int) < m ∧ W.mov s.v = true := by simpa using hb
    have hm := hb2.2
    have e37 := e6.trans e7
    refine q_pair (K := K) (P := fun _ _ => True) (evx_call1 (ev_var rfl) (hq1.mono e37) (ev_var rfl) (ev_var rfl) i0 i1 hm i2 i3) fun H8 e8 => ?_
    have e38 := e37.trans e8
    refine q_pair (K := K) (P := fun _ _ => True) (evx_call2 (ev_var rfl) (hq2.mono e38) (ev_var rfl) (ev_var rfl) i0 i1 hm i2 i3) fun H9 e9 => ?_
    have e39 := e38.trans e9
    refine q_pair (K := K) (P := fun _ _ => True) (evx_fn (ea_cons (ev_Wmark (ev_var rfl) ((hw.mono e13).mono e39) (ev_var rfl) i0 i1) (ea_cons (ev_var rfl) (ea_cons (ev_var rfl) (ea_cons (ev_var rfl) ea_nil)))) spx_outcome) fun H10 e10 => ?_
    refine q_asg (v := .int (movS W s.v (fBid W C (eX W C k) (eR W C k) s.v s.a) (sBid W C k (eX W C k) (eC W C k) s.v s.a) (fStep W C (eX W C k) (eR W C k) s.v s.a) (sStep W C (eX W C k) (eC W C k) s.v s.a))) ?_ fun H11 e11 => ?_
    · refine ev_is (ev_pick (et_test (ev_eqI (ev_var rfl) ev_c)) (ev_var rfl) (ev_var rfl)) ?_
      congr 1
      unfold movS
      by_cases z : sBid W C k (eX W C k) (eC W C k) s.v s.a < fBid W C (eX W C k) (eR W C k) s.v s.a ∨ (fBid W C (eX W C k) (eR W C k) s.v s.a = sBid W C k (eX W C k) (eC W C k) s.v s.a ∧ W.mark s.v = 1)
      · rw [if_pos z, if_pos z]; rfl
      · rw [if_neg z, if_neg z]; rfl
    have e311 := e39.trans (e10.trans e11)
    have hnx : dRun W C k (eX W C k) (eR W C k) (eC W C k) v p (i + 1) = dNext W C k (eX W C k) (eR W C k) (eC W C k) s := by
      show (if W.mov (dRun W C k (eX W C k) (eR W C k) (eC W C k) v p i).v = true then _ else _) = _
      rw [hs, if_pos hm]
    refine q_aug rfl ev_c fun H12 e12 => ?_
    have fin : ∀ H13, Ex H12 H13 → (∃ m', m' < m.toNat - i ∧ ∃ i : Nat, m' = m.toNat - i ∧ i ≤ m.toNat ∧ (dRun W C k (eX W C k) (eR W C k) (eC W C k) v p i).mov = i ∧ Ex H3 H13 ∧ ∃ v12 v13 v14 v15 v16,
        [some (V.ref a), some (.int k), some (.ref c), some (.int (dNext W C k (eX W C k) (eR W C k) (eC W C k) s).v), some (.int (dNext W C k (eX W C k) (eR W C k) (eC W C k) s).a), some (.int m), some (.ref pc), some (.ref pp), some (.ref q1), some (.ref q2), some (.int ((s.mov : Int) + 1)), some (.int (dNext W C k (eX W C k) (eR W C k) (eC W C k) s).vis), some (.int (fBid W C (eX W C k) (eR W C k) s.v s.a)), some (.int (fStep W C (eX W C k) (eR W C k) s.v s.a)), some (.int (sBid W C k (eX W C k) (eC W C k) s.v s.a)), some (.int (sStep W C (eX W C k) (eC W C k) s.v s.a)),
          some (.int (if sBid W C k (eX W C k) (eC W C k) s.v s.a < fBid W C (eX W C k) (eR W C k) s.v s.a ∨ (fBid W C (eX W C k) (eR W C k) s.v s.a = sBid W C k (eX W C k) (eC W C k) s.v s.a ∧ W.mark s.v = 1) then 1 else 2))] =
        [some (V.ref a), some (.int k), some (.ref c), some (.int (dRun W C k (eX W C k) (eR W C k) (eC W C k) v p i).v), some (.int (dRun W C k (eX W C k) (eR W C k) (eC W C k) v p i).a), some (.int m), some (.ref pc), some (.ref pp), some (.ref q1), some (.ref q2), some (.int (i : Int)), some (.int (dRun W C k (eX W C k) (eR W C k) (eC W C k) v p i).vis), v12, v13, v14, v15, v16]) := fun H13 e13' => by
      refine ⟨m.toNat - (i + 1), by omega, i + 1, rfl, by omega, ?_, e311.trans (e12.trans e13'), some (.int (fBid W C (eX W C k) (eR W C k) s.v s.a)), some (.int (fStep W C (eX W C k) (eR W C k) s.v s.a)), some (.int (sBid W C k (eX W C k) (eC W C k) s.v s.a)), some (.int (sStep W C (eX W C k) (eC W C k) s.v s.a)),
        some (.int (if sBid W C k (eX W C k) (eC W C k) s.v s.a < fBid W C (eX W C k) (eR W C k) s.v s.a ∨ (fBid W C (eX W C k) (eR W C k) s.v s.a = sBid W C k (eX W C k) (eC W C k) s.v s.a ∧ W.mark s.v = 1) then 1 else 2)), ?_⟩
      · rw [hnx]
        show s.mov + 1 = _
        rw [hmv]
        rfl
      · rw [hnx, hmv]
        rfl
    rw [← hmv]
    refine s_if (et_test (ev_inC (ev_var rfl) (ev_var rfl) (hcc3.mono (e311.trans e12)))) (fun hcb H13 e13' => ?_) fun hcb H13 e13' => ?_
    · refine s_aug rfl ev_c fun H14 e14 => ?_
      have := fin H14 (e13'.trans e14)
      have e : (dNext W C k (eX W C k) (eR W C k) (eC W C k) s).vis = s.vis + 1 := by
        show s.vis + cb C _ = _
        unfold cb
        rw [if_pos hcb]
      rw [e] at this
      exact this
    · have := fin H13 e13'
      have e : (dNext W C k (eX W C k) (eR W C k) (eC W C k) s).vis = s.vis := by
        show s.vis + cb C _ = _
        unfold cb
        rw [if_neg (by rw [hcb]; exact Bool.false_ne_true), Int.add_zero]
      rw [e] at this
      exact this
  · have hend : dRun W C k (eX W C k) (eR W C k) (eC W C k) v p m.toNat = s := by
      by_cases z : i = m.toNat
      · rw [← z, hs]
      · have hm : W.mov s.v = false := by
          have hz : (i : Int) < m := by omega
          cases hmm : W.mov s.v with
          | false => rfl
          | true =>
            rw [decide_eq_true hz, hmm] at hb
            cases hb
        rw [dRun_stay (i := i) (by rw [hs]; exact hm) m.toNat him, hs]
    rw [hend] at q
    have hw7 := hw6.mono e7
    have e07 := e13.trans (e6.trans e7)
    rw [← hmv]
    refine q_when (et_Wmov (ev_var rfl) hw7 (ev_var rfl) i0 i1) (fun hm H8 e8 => ?_) fun hm H8 e8 => ?_
    · refine s_retX (EvU.toX (eu_tup (vs := [.int s.vis, .str "going", .int s.mov]) (ea_cons (ev_var rfl) (ea_cons ev_c (ea_cons (ev_var rfl) ea_nil))) (by show 3 ≤ 100000; decide))) fun y H9 e9 ⟨pt, ey, hpt⟩ => ?_
      subst ey
      refine q pt H9 (e07.trans (e8.trans e9)) ?_
      unfold dWord
      rw [if_pos hm]
      exact st_of hpt
    · have hw8 := hw7.mono e8
      obtain ⟨g, hg, hgd⟩ := hw8.hd
      have hword : Ev (tIf (tTest (tOp rGe (tVar 4) (tFn (sp_due_at K) (tCons (tOp (rIx K) (tPW_dues K (tVar 0)) (tVar 3)) (tCons (tVar 1) tNil))))) (tC (.str "paid")) (tC (.str "lost"))) [some (.ref a), some (.int k), some (.ref c), some (.int s.v), some (.int s.a), some (.int m), some (.ref pc), some (.ref pp), some (.ref q1), some (.ref q2), some (.int s.mov), some (.int s.vis), v12, v13, v14, v15, v16] H8 (dWord W k s) := by
        unfold dWord
        rw [if_neg (by rw [hm]; exact Bool.false_ne_true)]
        refine ev_if (et_test (ev_I (ev_var rfl) (ev_fn (ea_cons (ev_ix (ev_Wdues (ev_var rfl) hw8) (ev_var rfl) hg (atI_ran i0 i1)) (ea_cons (ev_var rfl) ea_nil)) (spv_due_at (hgd s.v i0 i1))))) (fun z => ?_) fun z => ?_
        · rw [if_pos (of_decide_eq_true z)]
          exact ev_c
        · rw [if_neg (of_decide_eq_false z)]
          exact ev_c
      refine s_retX (EvU.toX (eu_tup (vs := [.int s.vis, dWord W k s, .int s.mov]) (ea_cons (ev_var rfl) (ea_cons hword (ea_cons (ev_var rfl) ea_nil))) (by show 3 ≤ 100000; decide))) fun y H9 e9 ⟨pt, ey, hpt⟩ => ?_
      subst ey
      exact q pt H9 (e07.trans (e8.trans e9)) (st_of hpt)
end
theorem d_call_duel {w : World} {K : Frag} {mg : Str → Option Value} {base : Heap} (T : Txt w K mg) {f : Addr} {cdv : Value} {A : Around} {outer : List Env} {s : Shared} {H : Hp} {E : XK} (hr : Room 10 (A.deeper (envOfC "call_duel" (defScope s_call_duel) s.heap.objs.size f cdv))) :
    PSs (cxOf CX0 PP w K mg base N_call_duel "call_duel" (defScope s_call_duel) f cdv A outer s H E).nox (defBody s_call_duel) (t_call_duel K) := by
  exact (pss_cons (ps_set (i := 6) sc_call_duel.nd rfl (Or.inl rfl) (pe_f (ok_call_duel_look T) hr (by decide) (by rfl) (pa_cons (pv 0) (pa_cons (pv 1) (pa_cons (pv 2) (pa_cons (pv 3) (pa_cons (pv 4) (pa_cons (pv 5) pa_nil))))))))
    (pss_cons (ps_set (i := 7) sc_call_duel.nd rfl (Or.inl rfl) (ClX.pe_cmeth (pe_glob (v := .ref (gP K)) (by rfl) (T.glo (memOf 75 rfl)) rfl) T.cread T.cmet (ok_CallPaper_of T) (hr.mono (by decide)) pass0 (pa_cons (pv 0) (pa_cons (pv 1) (pa_cons (pv 6) pa_nil)))))
    (pss_cons (ps_par (i := 8) (j := 9) (by rfl) sc_call_duel.nd rfl rfl (by decide) rfl rfl (pa_cons (pe_makeN T.mk1 (ok_CallFirst___init__ T) hr (by decide) (T.glo (memOf 77 rfl)) (by rfl) (pa_cons (pv 7) pa_nil)) (pa_cons (pe_makeN T.mk2 (ok_CallSecond___init__ T) hr (by decide) (T.glo (memOf 78 rfl)) (by rfl) (pa_cons (pv 7) pa_nil)) pa_nil)) (by rfl))
    (pss_cons (ps_set (i := 10) sc_call_duel.nd rfl (Or.inl rfl) pe_int)
    (pss_cons (ps_set (i := 11) sc_call_duel.nd rfl (Or.inl rfl) (pe_ifExp (pt_cmpR op_in_seq (pv 3) (pv 6) (by rfl)) pe_int pe_int))
    (pss_cons (ps_while PassesOwn.never (PW.pt (pw_and (pt_cmpR op_lt (pv 10) (pv 5) (nomark _)) (pw_and1 (pt_truth (pe_ix ix_seq (pe_W_first T (pv 0) hr (by decide)) (pv 3) (fun _ _ => rfl)) (by intro _; rfl))))) (pss_cons (ps_asg (pe_callN (pv 8) (callO_of (T.m1 (memOf 0 rfl))) (ok_CallFirst___call__ T) hr (by decide) (pa_cons (pv 3) (pa_cons (pv 4) pa_nil))) (pg_tup rfl (pgs_cons (pg_name (i := 12) sc_call_duel.nd rfl (Or.inl rfl)) (pgs_cons (pg_name (i := 13) sc_call_duel.nd rfl (Or.inl rfl)) pgs_nil))))
    (pss_cons (ps_asg (pe_callN (pv 9) (callO_of (T.m2 (memOf 0 rfl))) (ok_CallSecond___call__ T) hr (by decide) (pa_cons (pv 3) (pa_cons (pv 4) pa_nil))) (pg_tup rfl (pgs_cons (pg_name (i := 14) sc_call_duel.nd rfl (Or.inl rfl)) (pgs_cons (pg_name (i := 15) sc_call_duel.nd rfl (Or.inl rfl)) pgs_nil))))
    (pss_cons (ps_asg (pe_f (ok_outcome_of T) hr (by decide) (by rfl) (pa_cons (pe_ix ix_seq (pe_W_marks T (pv 0) hr (by decide)) (pv 3) (fun _ _ => rfl)) (pa_cons (pv 4) (pa_cons (pv 12) (pa_cons (pv 14) pa_nil))))) (pg_tup rfl (pgs_cons (pg_name (i := 16) sc_call_duel.nd rfl (Or.inl rfl)) (pgs_cons (pg_name (i := 4) sc_call_duel.nd rfl (Or.inl rfl)) pgs_nil))))
    (pss_cons (ps_set (i := 3) sc_call_duel.nd rfl (Or.inl rfl) (pe_ifExp (pt_cmpR op_eq (pv 16) pe_int (nomark _)) (pv 13) (pv 15)))
    (pss_cons (ps_aug (i := 10) sc_call_duel.nd rfl (Or.inl rfl) pe_int ip_add)
    (pss_one (ps_if (pt_cmpR op_in_seq (pv 3) (pv 6) (by rfl)) (pss_one (ps_aug (i := 11) sc_call_duel.nd rfl (Or.inl rfl) pe_int ip_add)) pss_nil))))))))
    (pss_cons (ps_if (pt_truth (pe_ix ix_seq (pe_W_first T (pv 0) hr (by decide)) (pv 3) (fun _ _ => rfl)) (by intro _; rfl)) (pss_one (ps_ret (pe_tup (pa_cons (pv 11) (pa_cons pe_str (pa_cons (pv 10) pa_nil)))))) pss_nil)
    (pss_one (ps_ret (pe_tup (pa_cons (pv 11) (pa_cons (pe_ifExp (pt_cmpR op_ge (pv 4) (pe_f (ok_due_at T) hr (by decide) (by rfl) (pa_cons (pe_ix ix_seq (pe_W_dues T (pv 0) hr (by decide)) (pv 3) (fun _ _ => rfl)) (pa_cons (pv 1) pa_nil))) (nomark _)) pe_str pe_str) (pa_cons (pv 10) pa_nil)))))))))))))
theorem ok_call_duel {w : World} {K : Frag} {mg : Str → Option Value} {base : Heap} (T : Txt w K mg) : GF PP w K mg base "call_duel" 11 (sp_call_duel K) := by
  have F := T.def_ (d := xf_call_duel) (memOf 70 rfl) rfl
  refine ⟨fnr_mk (k := 10) F sc_call_duel (fun _ _ _ _ _ _ us hl => match us, hl with | [_, _, _, _, _, _], _ => rfl) (fun vs H Q E h => len_call_duel h) (fun cdv A outer s H vs Q E hr h => ⟨t_call_duel K, d_call_duel T hr, pure_call_duel T h⟩), ?_, T.glo (memOf 44 rfl)⟩
  obtain ⟨fd, F⟩ := F
  exact F.kp
end Pw
end

section
set_option maxRecDepth 100000
set_option maxHeartbeats 4000000
/-! The law's own rounds. -/
namespace Pw
open PySem PySem.Spec L2 Evl StX PwS SlX
open PyProof.Rows hiding St
/-! ### all but the pot -/
def ExP (pot : Addr) (H H' : Hp) : Prop := ∀ a o, a ≠ pot → H a = some o → H' a = some o
theorem ExP.of {pot : Addr} {H H' : Hp} (e : Ex H H') : ExP pot H H' := fun a o _ h => e a o h
theorem ExP.trans {pot : Addr} {H H1 H2 : Hp} (a : ExP pot H H1) (b : ExP pot H1 H2) : ExP pot H H2 := fun x o n h => b x o n (a x o n h)
theorem ExP.upd {pot : Addr} {H H' : Hp} {o : HO} (e : ExP pot H H') : ExP pot H (upd H' pot o) := fun a u n h => by
  rw [upd_ne n]
  exact e a u n h
/-- a list that is not the pot -/
def LL (K : Frag) (pot : Addr) (H : Hp) (p : Addr) (xs : List V) : Prop := p ≠ pot ∧ SqL K H p xs
theorem sqL_exp {K : Frag} {pot p : Addr} {H H' : Hp} {xs : List V} (e : ExP pot H H') (n : p ≠ pot) (h : SqL K H p xs) : SqL K H' p xs := by
  rcases h with h | h
  · left
    rcases h with h | ⟨o, h⟩
    · exact .inl (e _ _ n h)
    · exact .inr ⟨o, e _ _ n h⟩
  · exact .inr h
theorem sqT_exp {K : Frag} {pot p : Addr} {H H' : Hp} {xs zs : List V} (e : ExP pot H H') (hp : H pot = some (.lst zs)) (h : SqT K H p xs) : SqT K H' p xs := by
  rcases h with h | h
  · left
    rcases h with h | ⟨o, h⟩
    · exact .inl (e _ _ (fun z => by rw [z, hp] at h; cases h) h)
    · exact .inr ⟨o, e _ _ (fun z => by rw [z, hp] at h; cases h) h⟩
  · exact .inr h
theorem LL.exp {K : Frag} {pot p : Addr} {H H' : Hp} {xs : List V} (e : ExP pot H H') (h : LL K pot H p xs) : LL K pot H' p xs := ⟨h.1, sqL_exp e h.1 h.2⟩
theorem LL.mono {K : Frag} {pot p : Addr} {H H' : Hp} {xs : List V} (e : Ex H H') (h : LL K pot H p xs) : LL K pot H' p xs := h.exp (.of e)
theorem LL.new {K : Frag} {pot p : Addr} {H H' : Hp} {xs zs : List V} (hp : H pot = some (.lst zs)) (n : H p = none) (h : H' p = some (.lst xs)) : LL K pot H' p xs := ⟨fun z => (by rw [z, hp] at n; cases n), sq_of h⟩
theorem dueV_exp {K : Frag} {pot : Addr} {H H' : Hp} {d : Due} {v : V} {zs : List V} (e : ExP pot H H') (hp : H pot = some (.lst zs)) (h : DueV K H d v) : DueV K H' d v := by
  cases d with
  | no => exact h
  | chips x => obtain ⟨a, e1, h1⟩ := h; exact ⟨a, e1, sqT_exp e hp h1⟩
  | less x => obtain ⟨a, e1, h1⟩ := h; exact ⟨a, e1, sqT_exp e hp h1⟩
/-- the law's web: four lists -/
structure LWA where
  f : Addr
  s : Addr
  m : Addr
  d : Addr
  ff : Int → Addr
  fs : Int → Addr
  g : Int → V
structure LawW (K : Frag) (H : Hp) (pot lw : Addr) (L : Wb) (A : LWA) : Prop where
  ok : L.Ok
  n60 : L.n ≤ 60
  h : LL K pot H lw [.ref A.f, .ref A.s, .ref A.m, .ref A.d]
  hf : LL K pot H A.f ((ran L.n).map fun v => V.ref (A.ff v))
  hs : LL K pot H A.s ((ran L.n).map fun v => V.ref (A.fs v))
  hm : LL K pot H A.m (rowV L.n L.mark)
  hd : LL K pot H A.d ((ran L.n).map A.g)
  hg : ∀ v : Int, 0 ≤ v → v < L.n → DueV K H (L.due v) (A.g v)
  ff : ∀ v : Int, 0 ≤ v → v < L.n → LL K pot H (A.ff v) (intV (L.F v)) ∧ (L.F v).length ≤ 60
  fs : ∀ v : Int, 0 ≤ v → v < L.n → LL K pot H (A.fs v) (intV (L.S v)) ∧ (L.S v).length ≤ 60
  dx : ∀ v : Int, 0 ≤ v → v < L.n → dueX (L.due v) ≤ 1000
theorem LawW.mono {K : Frag} {H H' : Hp} {pot lw : Addr} {L : Wb} {A : LWA} (e : Ex H H') (h : LawW K H pot lw L A) : LawW K H' pot lw L A :=
  ⟨h.ok, h.n60, h.h.mono e, h.hf.mono e, h.hs.mono e, h.hm.mono e, h.hd.mono e, fun v a b => (h.hg v a b).mono e, fun v a b => ⟨(h.ff v a b).1.mono e, (h.ff v a b).2⟩, fun v a b => ⟨(h.fs v a b).1.mono e, (h.fs v a b).2⟩, h.dx⟩
theorem LawW.exp {K : Frag} {H H' : Hp} {pot lw : Addr} {L : Wb} {A : LWA} {zs : List V} (e : ExP pot H H') (hp : H pot = some (.lst zs)) (h : LawW K H pot lw L A) : LawW K H' pot lw L A :=
  ⟨h.ok, h.n60, h.h.exp e, h.hf.exp e, h.hs.exp e, h.hm.exp e, h.hd.exp e, fun v a b => dueV_exp e hp (h.hg v a b), fun v a b => ⟨(h.ff v a b).1.exp e, (h.ff v a b).2⟩, fun v a b => ⟨(h.fs v a b).1.exp e, (h.fs v a b).2⟩, h.dx⟩
section
variable {L : Wb} (ok : L.Ok) {v : Int} (h0 : 0 ≤ v) (h1 : v < L.n)
include ok h0 h1
theorem mem_sF {x : Int} : x ∈ (wSrt L).F v ↔ x ∈ L.F v := mem_srt (ok.fr v · h0 h1)
theorem mem_sS {x : Int} : x ∈ (wSrt L).S v ↔ x ∈ L.S v := mem_srt (ok.sr v · h0 h1)
theorem lo_srt (f : Int → Int) : minOf ((L.F v).map f) = lo (wSrt L) f v := minOf_congr fun x => by
  simp only [List.mem_map]
  exact ⟨fun ⟨a, ha, e⟩ => ⟨a, (mem_sF ok h0 h1).mpr ha, e⟩, fun ⟨a, ha, e⟩ => ⟨a, (mem_sF ok h0 h1).mp ha, e⟩⟩
theorem hi_srt (f : Int → Int) : maxOf ((L.S v).map f) = hi (wSrt L) f v := maxOf_congr fun x => by
  simp only [List.mem_map]
  exact ⟨fun ⟨a, ha, e⟩ => ⟨a, (mem_sS ok h0 h1).mpr ha, e⟩, fun ⟨a, ha, e⟩ => ⟨a, (mem_sS ok h0 h1).mp ha, e⟩⟩
theorem pickF_srt (p : Int → Bool) : minOf ((L.F v).filter p) = pick ((wSrt L).F v) p := minOf_congr fun x => by
  simp only [List.mem_filter, mem_sF ok h0 h1]
theorem pickS_srt (p : Int → Bool) : minOf ((L.S v).filter p) = pick ((wSrt L).S v) p := minOf_congr fun x => by
  simp only [List.mem_filter, mem_sS ok h0 h1]
end
section
variable {K : Frag} {σ : L2.St} {H : Hp} {ta tb : TE} {pot lw : Addr} {L : Wb} {A : LWA} {v : Int} (ha : Ev ta σ H (.ref lw)) (h : LawW K H pot lw L A)
include ha h
theorem ev_L0 : Ev (tOp (rIx K) ta (tC (.int 0))) σ H (.ref A.f) := ev_ix ha ev_c (.l h.h.2) rfl
theorem ev_L1 : Ev (tOp (rIx K) ta (tC (.int 1))) σ H (.ref A.s) := ev_ix ha ev_c (.l h.h.2) rfl
theorem ev_L2 : Ev (tOp (rIx K) ta (tC (.int 2))) σ H (.ref A.m) := ev_ix ha ev_c (.l h.h.2) rfl
theorem ev_L3 : Ev (tOp (rIx K) ta (tC (.int 3))) σ H (.ref A.d) := ev_ix ha ev_c (.l h.h.2) rfl
theorem ev_LF (hb : Ev tb σ H (.int v)) (h0 : 0 ≤ v) (h1 : v < L.n) : Ev (tOp (rIx K) (tOp (rIx K) ta (tC (.int 0))) tb) σ H (.ref (A.ff v)) := ev_ix (ev_L0 ha h) hb (.l h.hf.2) (atI_ran h0 h1)
theorem ev_LS (hb : Ev tb σ H (.int v)) (h0 : 0 ≤ v) (h1 : v < L.n) : Ev (tOp (rIx K) (tOp (rIx K) ta (tC (.int 1))) tb) σ H (.ref (A.fs v)) := ev_ix (ev_L1 ha h) hb (.l h.hs.2) (atI_ran h0 h1)
theorem ev_LM (hb : Ev tb σ H (.int v)) (h0 : 0 ≤ v) (h1 : v < L.n) : Ev (tOp (rIx K) (tOp (rIx K) ta (tC (.int 2))) tb) σ H (.int (L.mark v)) := ev_ixR (ev_L2 ha h) hb (.l h.hm.2) h0 h1
theorem ev_LD (hb : Ev tb σ H (.int v)) (h0 : 0 ≤ v) (h1 : v < L.n) : Ev (tOp (rIx K) (tOp (rIx K) ta (tC (.int 3))) tb) σ H (A.g v) := ev_ix (ev_L3 ha h) hb (.l h.hd.2) (atI_ran h0 h1)
theorem ev_Llen (hb : Ev tb σ H (.int v)) (h0 : 0 ≤ v) (h1 : v < L.n) : Ev (tCB (rLenS K) (tCons (tOp (rIx K) (tOp (rIx K) ta (tC (.int 0))) tb) tNil)) σ H (.int ((L.F v).length : Int)) := by
  have := ev_len' (ev_LF ha h hb h0 h1) (.l (h.ff v h0 h1).1.2)
  rw [intV_len] at this
  exact this
/-- len(..) > 0, len(..) == 0 -/
theorem et_Lmov (hb : Ev tb σ H (.int v)) (h0 : 0 ≤ v) (h1 : v < L.n) : EvT (tTest (tOp rGt (tCB (rLenS K) (tCons (tOp (rIx K) (tOp (rIx K) ta (tC (.int 0))) tb) tNil)) (tC (.int 0)))) σ H ((wSrt L).mov v) := by
  refine et_is (et_test (ev_I (ev_Llen ha h hb h0 h1) ev_c)) ?_
  rw [wSrt_mov h.ok h0 h1]
  unfold Wb.mov
  cases e : L.F v with
  | nil => rfl
  | cons a l =>
    rw [List.length_cons]
    exact decide_eq_true (by omega)
theorem et_Lend (hb : Ev tb σ H (.int v)) (h0 : 0 ≤ v) (h1 : v < L.n) : EvT (tTest (tOp rEq (tCB (rLenS K) (tCons (tOp (rIx K) (tOp (rIx K) ta (tC (.int 0))) tb) tNil)) (tC (.int 0)))) σ H (!(wSrt L).mov v) := by
  refine et_is (et_test (ev_eqI (ev_Llen ha h hb h0 h1) ev_c)) ?_
  rw [wSrt_mov h.ok h0 h1]
  unfold Wb.mov
  cases e : L.F v with
  | nil => rfl
  | cons a l =>
    rw [List.length_cons]
    exact decide_eq_false (by omega)
theorem ev_Ln : Ev (tCB (rLenS K) (tCons (tOp (rIx K) ta (tC (.int 0))) tNil)) σ H (.int (L.n : Int)) := lenRan (ev_L0 ha h) (.l h.hf.2)
end
/-! ### equal lists of ints -/
theorem eqvAll_ints : ∀ l l' : List Int, PyData.eqvAll (l.map .int) (l'.map .int) = decide (l = l')
  | [], [] => by simp [PyData.eqvAll]
  | [], b :: l' => by simp [PyData.eqvAll]
  | a :: l, [] => by simp [PyData.eqvAll]
  | a :: l, b :: l' => by
    have ih := eqvAll_ints l l'
    rw [List.map_cons, List.map_cons, PyData.eqvAll, ih]
    by_cases e : a = b
    · subst e
      simp [PyData.eqv]
    · simp [PyData.eqv, e]
theorem eqv_list (l l' : List Int) : PyData.eqv (.list (l.map .int)) (.list (l'.map .int)) = decide (l = l') := by rw [PyData.eqv]; exact eqvAll_ints l l'
theorem canLay_ints : ∀ l : List Int, PyData.canLayAll0 (l.map .int) = true
  | [] => by simp [PyData.canLayAll0]
  | a :: l => by
    rw [List.map_cons, PyData.canLayAll0, canLay_ints l]
    simp [PyData.canLay0]
theorem shaped_list (l : List Int) : SeqAt.shaped (.list (l.map .int)) = true := by
  unfold SeqAt.shaped
  rw [Bool.and_eq_true]
  refine ⟨?_, decide_eq_true ?_⟩
  · rw [PyData.canLay0]; exact canLay_ints l
  · have := PwS.depth_ints l
    simp only [PyData.depth]
    omega
theorem shaped_tup (l : List Int) : SeqAt.shaped (.tuple (l.map .int)) = true := by
  unfold SeqAt.shaped
  rw [Bool.and_eq_true]
  refine ⟨?_, decide_eq_true ?_⟩
  · rw [PyData.canLay0]; exact canLay_ints l
  · have := PwS.depth_ints l
    simp only [PyData.depth]
    omega
theorem dpAll_ints {K : Frag} {H : Hp} : ∀ l : List Int, DpAll K H (intV l) (l.map .int)
  | [] => .nil
  | a :: l => .cons (.int a) (dpAll_ints l)
theorem ev_eqL {K : Frag} {σ : L2.St} {H : Hp} {ta tb : TE} {p q : Addr} {l l' : List Int} (ha : Ev ta σ H (.ref p)) (hb : Ev tb σ H (.ref q)) (hp : SqL K H p (intV l)) (hq : SqL K H q (intV l')) : Ev (tOp (rEqD K) ta tb) σ H (.bl (decide (l = l'))) :=
  ev_op ha hb fun H1 e Q k => ⟨_, _, Dp.lst (ex_l e hp) (dpAll_ints l), Dp.lst (ex_l e hq) (dpAll_ints l'), shaped_list l, shaped_list l', by rw [eqv_list]; exact k H1 (Ex.refl _)⟩
theorem rowV_eq {n : Nat} {f g : Int → Int} (h : (ran n).map f = (ran n).map g) {v : Int} (h0 : 0 ≤ v) (h1 : v < n) : f v = g v := by
  have := congrArg (fun l => l[v.toNat]?) h
  simp only [List.getElem?_map] at this
  rw [ran_get (by omega)] at this
  have e : f ((v.toNat : Nat) : Int) = g ((v.toNat : Nat) : Int) := Option.some.inj this
  rw [Int.toNat_of_nonneg h0] at e
  exact e
def sp__law_due_at (K : Frag) : Sp := fun vs H Q _ => ∃ v d k, vs = [v, .int k] ∧ DueV K H d v ∧ RetV (.int (dueAt d (k + 1))) H Q
/-! _law_due_at -/
abbrev N__law_due_at : List Str := ["_law_due_here", "_law_k"]
abbrev s__law_due_at : Stmt := top 86
theorem sc__law_due_at : FnScope N__law_due_at ["_law_due_here", "_law_k"] (defScope s__law_due_at) := ⟨rfl, rfl, rfl, by decide +kernel, rfl, by decide +kernel, by decide +kernel⟩
def t__law_due_at (K : Frag) : TS := (tSeq (tIfS (tTest (tOp rIsN (tVar 0) (tC .non))) (tRet (tOp rAdd (tVar 1) (tC (.int 1)))) tNext)
    (tSeq (tIfS (tTest (tOp rEq (tOp (rIx K) (tVar 0) (tC (.int 0))) (tC (.str "chips")))) (tRet (tCB rMin2' (tCons (tOp (rIx K) (tVar 0) (tC (.int 1))) (tCons (tOp rAdd (tVar 1) (tC (.int 1))) tNil)))) tNext)
    (tRet (tCB rMax2' (tCons (tC (.int 0)) (tCons (tOp rSub (tOp rAdd (tVar 1) (tC (.int 1))) (tOp (rIx K) (tVar 0) (tC (.int 1)))) tNil))))))
section
variable {w : World} {K : Frag} {mg : Str → Option Value} {vs : List V} {H : Hp} {Q : VK} {E : XK}
theorem len__law_due_at (h : sp__law_due_at K vs H Q E) : vs.length = 2 := by obtain ⟨v, d, k, rfl, _⟩ := h; rfl
theorem pure__law_due_at (T : Txt w K mg) (h : sp__law_due_at K vs H Q E) : t__law_due_at K (E1 Q) (start N__law_due_at vs) H := by
  obtain ⟨v, d, k, rfl, hd, q⟩ := h
  rcases hd.cases with ⟨rfl, rfl⟩ | ⟨a, x, s, rfl, hs, hx⟩
  · exact q_when (et_test (ev_isN (ev_var rfl))) (fun _ H1 e1 => s_ret (ev_I (ev_var rfl) ev_c) fun H2 e2 => q H2 (e1.trans e2)) fun z => nomatch z
  · refine q_not (et_is (et_test (ev_isN (ev_var rfl))) rfl) fun H1 e1 => ?_
    have hs2 : SqA K H1 a [.str s, .int x] := .t (ex_t e1 hs)
    have t0 := et_test (ev_eqS (ev_ix (ta := tVar 0) (tb := tC (.int 0)) (σ := [some (.ref a), some (.int k)]) (ev_var rfl) ev_c hs2 rfl) (ev_c (v := .str "chips")))
    rcases hx with ⟨rfl, rfl⟩ | ⟨rfl, rfl⟩
    · exact q_when (et_is t0 (b := true) (decide_eq_true rfl)) (fun _ H2 e2 => s_ret (ev_mn (ev_ix (ev_var rfl) ev_c (hs2.mono e2) rfl) (ev_I (ev_var rfl) ev_c)) fun H3 e3 => q H3 ((e1.trans e2).trans e3)) fun z => nomatch z
    · refine q_not (et_is t0 (decide_eq_false fun z => str_cl (V.str.inj z))) fun H2 e2 => ?_
      exact s_ret (ev_mx ev_c (ev_I (ev_I (ev_var rfl) ev_c) (ev_ix (ev_var rfl) ev_c (hs2.mono e2) rfl))) fun H3 e3 => q H3 ((e1.trans e2).trans e3)
end
theorem d__law_due_at {P : Program} {w : World} {K : Frag} {mg : Str → Option Value} {base : Heap} (T : Txt w K mg) {f : Addr} {cdv : Value} {A : Around} {outer : List Env} {s : Shared} {H : Hp} {E : XK} (hr : Room 0 (A.deeper (envOfC "_law_due_at" (defScope s__law_due_at) s.heap.objs.size f cdv))) :
    PSs (cxOf CX0 P w K mg base N__law_due_at "_law_due_at" (defScope s__law_due_at) f cdv A outer s H E).nox (defBody s__law_due_at) (t__law_due_at K) := by
  exact (pss_cons (ps_if (pt_cmpR op_isN1 (pv 0) pe_non (nomark _)) (pss_one (ps_ret (pe_op op_add (pv 1) pe_int))) pss_nil)
    (pss_cons (ps_if (pt_cmpR op_eq (pe_ix ix_seq (pv 0) pe_int (fun _ _ => rfl)) pe_str (nomark _)) (pss_one (ps_ret (pe_callB (call_min2 rfl) (by rfl) (T.free (memOf 2 rfl)) b_min (pa_cons (pe_ix ix_seq (pv 0) pe_int (fun _ _ => rfl)) (pa_cons (pe_op op_add (pv 1) pe_int) pa_nil))))) pss_nil)
    (pss_one (ps_ret (pe_callB (call_max2 rfl) (by rfl) (T.free (memOf 3 rfl)) b_max (pa_cons pe_int (pa_cons (pe_op op_sub (pe_op op_add (pv 1) pe_int) (pe_ix ix_seq (pv 0) pe_int (fun _ _ => rfl))) pa_nil)))))))
theorem ok__law_due_at {P : Program} {w : World} {K : Frag} {mg : Str → Option Value} {base : Heap} (T : Txt w K mg) : GF P w K mg base "_law_due_at" 1 (sp__law_due_at K) := by
  have F := T.def_ (d := xf__law_due_at) (memOf 79 rfl) rfl
  refine ⟨fnr_mk (k := 0) F sc__law_due_at (fun _ _ _ _ _ _ us hl => match us, hl with | [_, _], _ => rfl) (fun vs H Q E h => len__law_due_at h) (fun cdv A outer s H vs Q E hr h => ⟨t__law_due_at K, d__law_due_at T hr, pure__law_due_at T h⟩), ?_, T.glo (memOf 53 rfl)⟩
  obtain ⟨fd, F⟩ := F
  exact F.kp
theorem spv_law_due_at {K : Frag} {H : Hp} {d : Due} {v : V} {k : Int} (hd : DueV K H d v) : SpV (sp__law_due_at K) [v, .int k] H (.int (dueAt d (k + 1))) := fun H1 e Q q E => ⟨v, d, k, rfl, hd.mono e, fun H2 e2 => q H2 e2⟩
def sp__law_half (K : Frag) : Sp := fun vs H Q _ => ∃ m x y, vs = [.int m, .int x, .int y] ∧ RetV (.int (half m x y)) H Q
/-! _law_half -/
abbrev N__law_half : List Str := ["_law_mark", "_law_x", "_law_y"]
abbrev s__law_half : Stmt := top 87
theorem sc__law_half : FnScope N__law_half ["_law_mark", "_law_x", "_law_y"] (defScope s__law_half) := ⟨rfl, rfl, rfl, by decide +kernel, rfl, by decide +kernel, by decide +kernel⟩
def t__law_half (K : Frag) : TS := (tSeq (tIfS (tTest (tOp rEq (tVar 0) (tC (.int 1)))) (tRet (tOp rDiv (tOp rAdd (tVar 1) (tCB rMax2' (tCons (tVar 1) (tCons (tVar 2) tNil)))) (tC (.int 2)))) tNext)
    (tRet (tOp rDiv (tOp rAdd (tOp rAdd (tCB rMin2' (tCons (tVar 1) (tCons (tVar 2) tNil))) (tVar 2)) (tC (.int 1))) (tC (.int 2)))))
section
variable {w : World} {K : Frag} {mg : Str → Option Value} {vs : List V} {H : Hp} {Q : VK} {E : XK}
theorem len__law_half (h : sp__law_half K vs H Q E) : vs.length = 3 := by obtain ⟨m, x, y, rfl, _⟩ := h; rfl
theorem pure__law_half (T : Txt w K mg) (h : sp__law_half K vs H Q E) : t__law_half K (E1 Q) (start N__law_half vs) H := by
  obtain ⟨m, x, y, rfl, k⟩ := h
  refine q_when (et_test (ev_eqI (ev_var rfl) ev_c)) (fun c H1 e1 => ?_) fun c H1 e1 => ?_
  · refine s_ret (ev_Ic (ev_I (ev_var rfl) (ev_mx (ev_var rfl) (ev_var rfl))) ev_c ⟨by decide, by decide⟩) fun H2 e2 => ?_
    have := k H2 (e1.trans e2)
    unfold half at this
    rw [if_pos (of_decide_eq_true c)] at this
    exact this
  · refine s_ret (ev_Ic (ev_I (ev_I (ev_mn (ev_var rfl) (ev_var rfl)) (ev_var rfl)) ev_c) ev_c ⟨by decide, by decide⟩) fun H2 e2 => ?_
    have := k H2 (e1.trans e2)
    unfold half at this
    rw [if_neg (of_decide_eq_false c)] at this
    exact this
end
theorem d__law_half {P : Program} {w : World} {K : Frag} {mg : Str → Option Value} {base : Heap} (T : Txt w K mg) {f : Addr} {cdv : Value} {A : Around} {outer : List Env} {s : Shared} {H : Hp} {E : XK} (hr : Room 0 (A.deeper (envOfC "_law_half" (defScope s__law_half) s.heap.objs.size f cdv))) :
    PSs (cxOf CX0 P w K mg base N__law_half "_law_half" (defScope s__law_half) f cdv A outer s H E).nox (defBody s__law_half) (t__law_half K) := by
  exact (pss_cons (ps_if (pt_cmpR op_eq (pv 0) pe_int (nomark _)) (pss_one (ps_ret (pe_op op_fdiv (pe_op op_add (pv 1) (pe_callB (call_max2 rfl) (by rfl) (T.free (memOf 3 rfl)) b_max (pa_cons (pv 1) (pa_cons (pv 2) pa_nil)))) pe_int))) pss_nil)
    (pss_one (ps_ret (pe_op op_fdiv (pe_op op_add (pe_op op_add (pe_callB (call_min2 rfl) (by rfl) (T.free (memOf 2 rfl)) b_min (pa_cons (pv 1) (pa_cons (pv 2) pa_nil))) (pv 2)) pe_int) pe_int))))
theorem ok__law_half {P : Program} {w : World} {K : Frag} {mg : Str → Option Value} {base : Heap} (T : Txt w K mg) : GF P w K mg base "_law_half" 1 (sp__law_half K) := by
  have F := T.def_ (d := xf__law_half) (memOf 80 rfl) rfl
  refine ⟨fnr_mk (k := 0) F sc__law_half (fun _ _ _ _ _ _ us hl => match us, hl with | [_, _, _], _ => rfl) (fun vs H Q E h => len__law_half h) (fun cdv A outer s H vs Q E hr h => ⟨t__law_half K, d__law_half T hr, pure__law_half T h⟩), ?_, T.glo (memOf 54 rfl)⟩
  obtain ⟨fd, F⟩ := F
  exact F.kp
theorem spv_law_half {K : Frag} {H : Hp} {m x y : Int} : SpV (sp__law_half K) [.int m, .int x, .int y] H (.int (half m x y)) := fun H1 e Q q E => ⟨m, x, y, rfl, fun H2 e2 => q H2 e2⟩
def sp__law_low (K : Frag) : Sp := fun vs H Q _ => ∃ pot lw L A r f v, vs = [.ref lw, .ref r, .int v] ∧ LawW K H pot lw L A ∧ SqA K H r (rowV L.n f) ∧ 0 ≤ v ∧ v < L.n ∧ (wSrt L).mov v = true ∧ RetV (.int (lo (wSrt L) f v)) H Q
/-! _law_low -/
abbrev N__law_low : List Str := ["_law_web_here", "_law_row", "_law_stand", "_law_step"]
abbrev s__law_low : Stmt := top 88
theorem sc__law_low : FnScope N__law_low ["_law_web_here", "_law_row", "_law_stand"] (defScope s__law_low) := ⟨rfl, rfl, rfl, by decide +kernel, rfl, by decide +kernel, by decide +kernel⟩
def t__law_low (K : Frag) : TS := (tRet (tCB (rMin K) (tCons (tLc (iSeq K (tOp (rIx K) (tOp (rIx K) (tVar 0) (tC (.int 0))) (tVar 2))) (gName 3) tYes (tOp (rIx K) (tVar 1) (tVar 3)) [3]) tNil)))
section
variable {w : World} {K : Frag} {mg : Str → Option Value} {vs : List V} {H : Hp} {Q : VK} {E : XK}
theorem len__law_low (h : sp__law_low K vs H Q E) : vs.length = 3 := by obtain ⟨pot, lw, L, A, r, f, v, rfl, _⟩ := h; rfl
theorem pure__law_low (T : Txt w K mg) (h : sp__law_low K vs H Q E) : t__law_low K (E1 Q) (start N__law_low vs) H := by
  obtain ⟨pot, lw, L, A, r, f, v, rfl, hw, hr, h0, h1, hm, k⟩ := h
  have hne : L.F v ≠ [] := mov_ne (by rw [← wSrt_mov hw.ok h0 h1]; exact hm)
  refine s_ret (ev_minL (l := (L.F v).map f) (el_lcM (ea_of (ev_LF (ev_var rfl) hw (ev_var rfl) h0 h1) (.l (hw.ff v h0 h1).1.2)) (by have := (hw.ff v h0 h1).2; omega) (fun _ => rfl) (fun x H1 e1 hx => ?_)) (fun z => hne (List.map_eq_nil_iff.mp z))) fun H1 e => ?_
  · have hb := hw.ok.fr v x h0 h1 hx
    exact ev_ixR (ev_var rfl) (ev_var rfl) (hr.mono e1) hb.1 hb.2
  · rw [lo_srt hw.ok h0 h1]
    exact k H1 e
end
theorem d__law_low {P : Program} {w : World} {K : Frag} {mg : Str → Option Value} {base : Heap} (T : Txt w K mg) {f : Addr} {cdv : Value} {A : Around} {outer : List Env} {s : Shared} {H : Hp} {E : XK} (hr : Room 0 (A.deeper (envOfC "_law_low" (defScope s__law_low) s.heap.objs.size f cdv))) :
    PSs (cxOf CX0 P w K mg base N__law_low "_law_low" (defScope s__law_low) f cdv A outer s H E).nox (defBody s__law_low) (t__law_low K) := by
  exact (pss_one (ps_ret (pe_callB (cr_min rfl) (by rfl) (T.free (memOf 2 rfl)) b_min (pa_cons (pe_lc (own := [("_law_step", 3)]) (g := gName 3) (tt := tYes) (te := (tOp (rIx K) (tVar 1) (tVar 3))) rfl sc__law_low.nd (pi_seq (pe_ix ix_seq (pe_ix ix_seq (pv 0) pe_int (fun _ _ => rfl)) (pv 2) (fun _ _ => rfl))) (blkOk_by (N := N__law_low) (sc := defScope s__law_low) (by decide +kernel)) (fun _ _ _ _ _ => pg_name (i := 3) sc__law_low.nd rfl (Or.inl rfl)) (fun _ _ _ _ _ => pts_nil) (fun _ _ _ _ _ => (pe_ix ix_seq (pv 1) (pv 3) (fun _ _ => rfl)))) pa_nil))))
theorem ok__law_low {P : Program} {w : World} {K : Frag} {mg : Str → Option Value} {base : Heap} (T : Txt w K mg) : GF P w K mg base "_law_low" 1 (sp__law_low K) := by
  have F := T.def_ (d := xf__law_low) (memOf 81 rfl) rfl
  refine ⟨fnr_mk (k := 0) F sc__law_low (fun _ _ _ _ _ _ us hl => match us, hl with | [_, _, _], _ => rfl) (fun vs H Q E h => len__law_low h) (fun cdv A outer s H vs Q E hr h => ⟨t__law_low K, d__law_low T hr, pure__law_low T h⟩), ?_, T.glo (memOf 55 rfl)⟩
  obtain ⟨fd, F⟩ := F
  exact F.kp
theorem spv_law_low {K : Frag} {H : Hp} {pot lw r : Addr} {L : Wb} {A : LWA} {f : Int → Int} {v : Int} (h : LawW K H pot lw L A) (hr : SqA K H r (rowV L.n f)) (h0 : 0 ≤ v) (h1 : v < L.n) (hm : (wSrt L).mov v = true) : SpV (sp__law_low K) [.ref lw, .ref r, .int v] H (.int (lo (wSrt L) f v)) := fun H1 e Q q E => ⟨pot, lw, L, A, r, f, v, rfl, h.mono e, hr.mono e, h0, h1, hm, fun H2 e2 => q H2 e2⟩
def sp__law_high (K : Frag) : Sp := fun vs H Q _ => ∃ pot lw L A r f v, vs = [.ref lw, .ref r, .int v] ∧ LawW K H pot lw L A ∧ SqA K H r (rowV L.n f) ∧ 0 ≤ v ∧ v < L.n ∧ (wSrt L).mov v = true ∧ RetV (.int (hi (wSrt L) f v)) H Q
/-! _law_high -/
abbrev N__law_high : List Str := ["_law_web_here", "_law_row", "_law_stand", "_law_step"]
abbrev s__law_high : Stmt := top 89
theorem sc__law_high : FnScope N__law_high ["_law_web_here", "_law_row", "_law_stand"] (defScope s__law_high) := ⟨rfl, rfl, rfl, by decide +kernel, rfl, by decide +kernel, by decide +kernel⟩
def t__law_high (K : Frag) : TS := (tRet (tCB (rMax K) (tCons (tLc (iSeq K (tOp (rIx K) (tOp (rIx K) (tVar 0) (tC (.int 1))) (tVar 2))) (gName 3) tYes (tOp (rIx K) (tVar 1) (tVar 3)) [3]) tNil)))
section
variable {w : World} {K : Frag} {mg : Str → Option Value} {vs : List V} {H : Hp} {Q : VK} {E : XK}
theorem len__law_high (h : sp__law_high K vs H Q E) : vs.length = 3 := by obtain ⟨pot, lw, L, A, r, f, v, rfl, _⟩ := h; rfl
theorem pure__law_high (T : Txt w K mg) (h : sp__law_high K vs H Q E) : t__law_high K (E1 Q) (start N__law_high vs) H := by
  obtain ⟨pot, lw, L, A, r, f, v, rfl, hw, hr, h0, h1, hm, k⟩ := h
  have hne : L.S v ≠ [] := ne_S hw.ok h0 h1 (by rw [← wSrt_mov hw.ok h0 h1]; exact hm)
  refine s_ret (ev_maxL (l := (L.S v).map f) (el_lcM (ea_of (ev_LS (ev_var rfl) hw (ev_var rfl) h0 h1) (.l (hw.fs v h0 h1).1.2)) (by have := (hw.fs v h0 h1).2; omega) (fun _ => rfl) (fun x H1 e1 hx => ?_)) (fun z => hne (List.map_eq_nil_iff.mp z))) fun H1 e => ?_
  · have hb := hw.ok.sr v x h0 h1 hx
    exact ev_ixR (ev_var rfl) (ev_var rfl) (hr.mono e1) hb.1 hb.2
  · rw [hi_srt hw.ok h0 h1]
    exact k H1 e
end
theorem d__law_high {P : Program} {w : World} {K : Frag} {mg : Str → Option Value} {base : Heap} (T : Txt w K mg) {f : Addr} {cdv : Value} {A : Around} {outer : List Env} {s : Shared} {H : Hp} {E : XK} (hr : Room 0 (A.deeper (envOfC "_law_high" (defScope s__law_high) s.heap.objs.size f cdv))) :
    PSs (cxOf CX0 P w K mg base N__law_high "_law_high" (defScope s__law_high) f cdv A outer s H E).nox (defBody s__law_high) (t__law_high K) := by
  exact (pss_one (ps_ret (pe_callB (cr_max rfl) (by rfl) (T.free (memOf 3 rfl)) b_max (pa_cons (pe_lc (own := [("_law_step", 3)]) (g := gName 3) (tt := tYes) (te := (tOp (rIx K) (tVar 1) (tVar 3))) rfl sc__law_high.nd (pi_seq (pe_ix ix_seq (pe_ix ix_seq (pv 0) pe_int (fun _ _ => rfl)) (pv 2) (fun _ _ => rfl))) (blkOk_by (N := N__law_high) (sc := defScope s__law_high) (by decide +kernel)) (fun _ _ _ _ _ => pg_name (i := 3) sc__law_high.nd rfl (Or.inl rfl)) (fun _ _ _ _ _ => pts_nil) (fun _ _ _ _ _ => (pe_ix ix_seq (pv 1) (pv 3) (fun _ _ => rfl)))) pa_nil))))
theorem ok__law_high {P : Program} {w : World} {K : Frag} {mg : Str → Option Value} {base : Heap} (T : Txt w K mg) : GF P w K mg base "_law_high" 1 (sp__law_high K) := by
  have F := T.def_ (d := xf__law_high) (memOf 82 rfl) rfl
  refine ⟨fnr_mk (k := 0) F sc__law_high (fun _ _ _ _ _ _ us hl => match us, hl with | [_, _, _], _ => rfl) (fun vs H Q E h => len__law_high h) (fun cdv A outer s H vs Q E hr h => ⟨t__law_high K, d__law_high T hr, pure__law_high T h⟩), ?_, T.glo (memOf 56 rfl)⟩
  obtain ⟨fd, F⟩ := F
  exact F.kp
theorem spv_law_high {K : Frag} {H : Hp} {pot lw r : Addr} {L : Wb} {A : LWA} {f : Int → Int} {v : Int} (h : LawW K H pot lw L A) (hr : SqA K H r (rowV L.n f)) (h0 : 0 ≤ v) (h1 : v < L.n) (hm : (wSrt L).mov v = true) : SpV (sp__law_high K) [.ref lw, .ref r, .int v] H (.int (hi (wSrt L) f v)) := fun H1 e Q q E => ⟨pot, lw, L, A, r, f, v, rfl, h.mono e, hr.mono e, h0, h1, hm, fun H2 e2 => q H2 e2⟩
def sp__law_price (K : Frag) : Sp := fun vs H Q _ => ∃ pot lw L A k r f v, vs = [.ref lw, .int k, .ref r, .int v] ∧ LawW K H pot lw L A ∧ SqA K H r (rowV L.n f) ∧ 0 ≤ v ∧ v < L.n ∧ (wSrt L).mov v = true ∧ RetV (.int (price (wSrt L) f v)) H Q
/-! _law_price -/
abbrev N__law_price : List Str := ["_law_web_here", "_law_k", "_law_row", "_law_stand"]
abbrev s__law_price : Stmt := top 90
theorem sc__law_price : FnScope N__law_price ["_law_web_here", "_law_k", "_law_row", "_law_stand"] (defScope s__law_price) := ⟨rfl, rfl, rfl, by decide +kernel, rfl, by decide +kernel, by decide +kernel⟩
def t__law_price (K : Frag) : TS := (tSeq (tIfS (tTest (tOp rEq (tCB (rLenS K) (tCons (tOp (rIx K) (tOp (rIx K) (tVar 0) (tC (.int 0))) (tVar 3)) tNil)) (tC (.int 0)))) (tRet (tOp rAdd (tVar 1) (tC (.int 1)))) tNext)
    (tRet (tFn (sp__law_half K) (tCons (tOp (rIx K) (tOp (rIx K) (tVar 0) (tC (.int 2))) (tVar 3)) (tCons (tFn (sp__law_low K) (tCons (tVar 0) (tCons (tVar 2) (tCons (tVar 3) tNil)))) (tCons (tFn (sp__law_high K) (tCons (tVar 0) (tCons (tVar 2) (tCons (tVar 3) tNil)))) tNil))))))
section
variable {w : World} {K : Frag} {mg : Str → Option Value} {vs : List V} {H : Hp} {Q : VK} {E : XK}
theorem len__law_price (h : sp__law_price K vs H Q E) : vs.length = 4 := by obtain ⟨pot, lw, L, A, k, r, f, v, rfl, _⟩ := h; rfl
theorem pure__law_price (T : Txt w K mg) (h : sp__law_price K vs H Q E) : t__law_price K (E1 Q) (start N__law_price vs) H := by
  obtain ⟨pot, lw, L, A, k, r, f, v, rfl, hw, hr, h0, h1, hm, q⟩ := h
  refine q_not (et_is (et_Lend (ev_var rfl) hw (ev_var rfl) h0 h1) (by rw [hm]; rfl)) fun H1 e1 => ?_
  have hw1 := hw.mono e1
  have hr1 := hr.mono e1
  exact s_ret (ev_fn (ea_cons (ev_LM (ev_var rfl) hw1 (ev_var rfl) h0 h1) (ea_cons (ev_fn (ea_cons (ev_var rfl) (ea_cons (ev_var rfl) (ea_cons (ev_var rfl) ea_nil))) (spv_law_low hw1 hr1 h0 h1 hm))
    (ea_cons (ev_fn (ea_cons (ev_var rfl) (ea_cons (ev_var rfl) (ea_cons (ev_var rfl) ea_nil))) (spv_law_high hw1 hr1 h0 h1 hm)) ea_nil))) spv_law_half) fun H2 e2 => q H2 (e1.trans e2)
end
theorem d__law_price {P : Program} {w : World} {K : Frag} {mg : Str → Option Value} {base : Heap} (T : Txt w K mg) {f : Addr} {cdv : Value} {A : Around} {outer : List Env} {s : Shared} {H : Hp} {E : XK} (hr : Room 1 (A.deeper (envOfC "_law_price" (defScope s__law_price) s.heap.objs.size f cdv))) :
    PSs (cxOf CX0 P w K mg base N__law_price "_law_price" (defScope s__law_price) f cdv A outer s H E).nox (defBody s__law_price) (t__law_price K) := by
  exact (pss_cons (ps_if (pt_cmpR op_eq (pe_callB call_len_seq (by rfl) (T.free (memOf 0 rfl)) b_len (pa_cons (pe_ix ix_seq (pe_ix ix_seq (pv 0) pe_int (fun _ _ => rfl)) (pv 3) (fun _ _ => rfl)) pa_nil)) pe_int (nomark _)) (pss_one (ps_ret (pe_op op_add (pv 1) pe_int))) pss_nil)
    (pss_one (ps_ret (pe_f (ok__law_half T) hr (by decide) (by rfl) (pa_cons (pe_ix ix_seq (pe_ix ix_seq (pv 0) pe_int (fun _ _ => rfl)) (pv 3) (fun _ _ => rfl)) (pa_cons (pe_f (ok__law_low T) hr (by decide) (by rfl) (pa_cons (pv 0) (pa_cons (pv 2) (pa_cons (pv 3) pa_nil)))) (pa_cons (pe_f (ok__law_high T) hr (by decide) (by rfl) (pa_cons (pv 0) (pa_cons (pv 2) (pa_cons (pv 3) pa_nil)))) pa_nil)))))))
theorem ok__law_price {P : Program} {w : World} {K : Frag} {mg : Str → Option Value} {base : Heap} (T : Txt w K mg) : GF P w K mg base "_law_price" 2 (sp__law_price K) := by
  have F := T.def_ (d := xf__law_price) (memOf 83 rfl) rfl
  refine ⟨fnr_mk (k := 1) F sc__law_price (fun _ _ _ _ _ _ us hl => match us, hl with | [_, _, _, _], _ => rfl) (fun vs H Q E h => len__law_price h) (fun cdv A outer s H vs Q E hr h => ⟨t__law_price K, d__law_price T hr, pure__law_price T h⟩), ?_, T.glo (memOf 57 rfl)⟩
  obtain ⟨fd, F⟩ := F
  exact F.kp
theorem spv_law_price {K : Frag} {H : Hp} {pot lw r : Addr} {L : Wb} {A : LWA} {f : Int → Int} {k v : Int} (h : LawW K H pot lw L A) (hr : SqA K H r (rowV L.n f)) (h0 : 0 ≤ v) (h1 : v < L.n) (hm : (wSrt L).mov v = true) : SpV (sp__law_price K) [.ref lw, .int k, .ref r, .int v] H (.int (price (wSrt L) f v)) := fun H1 e Q q E => ⟨pot, lw, L, A, k, r, f, v, rfl, h.mono e, hr.mono e, h0, h1, hm, fun H2 e2 => q H2 e2⟩
end Pw
end

section
set_option maxRecDepth 100000
set_option maxHeartbeats 4000000
/-! The law's round and its row for ever. -/
namespace Pw
open PySem PySem.Spec L2 Evl StX PwS SlX
open PyProof.Rows hiding St
def law0 (W : Wb) (C : Int → Bool) (K : Int) (X : Int → Int) (i : Nat) : Int → Int := fun v => if v < i then (if W.mov v = true then (if C v = true then price W X v else K) else dueAt (W.due v) K) else K
def lawP (W : Wb) (C : Int → Bool) (f : Int → Int) (i : Nat) : Int → Int := fun v => if v < i ∧ fre W C v = true then price W f v else f v
theorem turns {n : Nat} {k : Int} (hk : 0 ≤ k) (hk2 : k ≤ 1000) (hn : n ≤ 60) : (n : Int) * (k + 1) = ((n * (k + 1).toNat : Nat) : Int) ∧ n * (k + 1).toNat ≤ 60060 := by
  have e : ((k + 1).toNat : Int) = k + 1 := Int.toNat_of_nonneg (by omega)
  refine ⟨by rw [Int.natCast_mul, e], ?_⟩
  have := Nat.mul_le_mul hn (show (k + 1).toNat ≤ 1001 by omega)
  omega
def sp__law_round (K : Frag) : Sp := fun vs H Q _ => ∃ pot lw L A k c C l r X, vs = [.ref lw, .int k, .ref c, .ref r] ∧ LawW K H pot lw L A ∧ CAt K H c (wSrt L) C l ∧ SqA K H r (rowV L.n X) ∧ 0 ≤ k ∧ k ≤ 1000 ∧ (∀ v : Int, 0 ≤ v → v < L.n → 0 ≤ X v ∧ X v ≤ k + 1) ∧
  ∀ p H' Y, H p = none → Ex H H' → H' p = some (.lst (rowV L.n Y)) → IsRound (wSrt L) C (k + 1) X (fun _ => k + 1) Y → Q (.ref p) H'
/-! _law_round -/
abbrev N__law_round : List Str := ["_law_web_here", "_law_k", "_law_calls_here", "_law_row", "_law_after", "_law_stand", "_law_turn", "_law_again", "_law_part"]
abbrev s__law_round : Stmt := top 92
theorem sc__law_round : FnScope N__law_round ["_law_web_here", "_law_k", "_law_calls_here", "_law_row"] (defScope s__law_round) := ⟨rfl, rfl, rfl, by decide +kernel, rfl, by decide +kernel, by decide +kernel⟩
def t__law_round (K : Frag) : TS := (tSeq (tAsg (tLc (iSeq K (tVar 3)) (gName 8) tYes (tOp rAdd (tVar 1) (tC (.int 1))) [8]) (gName 4))
    (tSeq (tFor (iRng1 (tCons (tCB (rLenS K) (tCons (tVar 3) tNil)) tNil)) (gName 5) (tIfS (tTest (tOp rEq (tCB (rLenS K) (tCons (tOp (rIx K) (tOp (rIx K) (tVar 0) (tC (.int 0))) (tVar 5)) tNil)) (tC (.int 0)))) (tAsg (tFn (sp__law_due_at K) (tCons (tOp (rIx K) (tOp (rIx K) (tVar 0) (tC (.int 3))) (tVar 5)) (tCons (tVar 1) tNil))) (gSub (tVar 4) (tVar 5) rSetL)) (tIfS (tTest (tOp (rIn K false) (tVar 5) (tVar 2))) (tAsg (tFn (sp__law_price K) (tCons (tVar 0) (tCons (tVar 1) (tCons (tVar 3) (tCons (tVar 5) tNil))))) (gSub (tVar 4) (tVar 5) rSetL)) tNext)))
    (tSeq (tFor (iRng1 (tCons (tOp rAdd (tOp rMul (tCB (rLenS K) (tCons (tVar 3) tNil)) (tOp rAdd (tVar 1) (tC (.int 1)))) (tC (.int 1))) tNil)) (gName 6) (tSeq (tAsg (tCB (rListS K) (tCons (tVar 4) tNil)) (gName 7))
    (tSeq (tFor (iRng1 (tCons (tCB (rLenS K) (tCons (tVar 3) tNil)) tNil)) (gName 5) (tIfS (tAnd (tTest (tOp rGt (tCB (rLenS K) (tCons (tOp (rIx K) (tOp (rIx K) (tVar 0) (tC (.int 0))) (tVar 5)) tNil)) (tC (.int 0)))) (tTest (tOp (rIn K true) (tVar 5) (tVar 2)))) (tAsg (tFn (sp__law_price K) (tCons (tVar 0) (tCons (tVar 1) (tCons (tVar 4) (tCons (tVar 5) tNil))))) (gSub (tVar 7) (tVar 5) rSetL)) tNext))
    (tSeq (tIfS (tTest (tOp (rEqD K) (tVar 7) (tVar 4))) (tRet (tVar 4)) tNext)
    (tAsg (tVar 7) (gName 4))))))
    (tRet (tVar 4)))))
section
variable {w : World} {K : Frag} {mg : Str → Option Value} {vs : List V} {H : Hp} {Q : VK} {E : XK}
theorem len__law_round (h : sp__law_round K vs H Q E) : vs.length = 4 := by obtain ⟨pot, lw, L, A, k, c, C, l, r, X, rfl, _⟩ := h; rfl
theorem pure__law_round (T : Txt w K mg) (h : sp__law_round K vs H Q E) : t__law_round K (E1 Q) (start N__law_round vs) H := by
  obtain ⟨pot, lw, L, A, k, c, C, l, r, X, rfl, hw, hc, hr, hk, hk2, hX, q⟩ := h
  have hn := hw.n60
  have ok := wSrt_ok hw.ok
  obtain ⟨hN, hNb⟩ := turns hk hk2 hn
  refine q_asgL (el_lcR (g := fun _ => k + 1) (ea_of (ev_var rfl) hr) (by omega) (fun _ => rfl) (fun v H1 e1 _ _ => ev_I (ev_var rfl) ev_c)) fun pa H1 na e1 hpa => ?_
  refine q_forR1 (n := (L.n : Int)) (ea_cons (ev_lenR (ev_var rfl) (hr.mono e1)) ea_nil) ⟨by omega, by omega⟩ (fun i σ' H' => (∃ v, σ' = [some (.ref lw), some (.int k), some (.ref c), some (.ref r), some (.ref pa), v, none, none, none]) ∧ Ex H H' ∧ H' pa = some (.lst (rowV L.n (law0 (wSrt L) C (k + 1) X i)))) ?_ ?_ ?_
  · intro H2 e2
    refine ⟨⟨_, rfl⟩, e1.trans e2, ?_⟩
    rw [e2 _ _ hpa]
    refine congrArg (fun l => some (HO.lst l)) (rowV_congr fun v h0 h1 => ?_)
    unfold law0
    rw [if_neg (by show ¬ v < ((0 : Nat) : Int); omega)]
  · rintro i σ' H2 hi ⟨⟨v, rfl⟩, e2, h2⟩
    have i0 : (0 : Int) ≤ i := by omega
    have hw2 := hw.mono e2
    have nxt : ∀ (x : Int), (x = if (wSrt L).mov i = true then (if C i = true then price (wSrt L) X i else k + 1) else dueAt (L.due i) (k + 1)) → ∀ v : Int, 0 ≤ v → v < L.n → setF (law0 (wSrt L) C (k + 1) X i) i x v = law0 (wSrt L) C (k + 1) X (i + 1) v := fun x hx v h0 h1 => by
      unfold setF law0
      by_cases e : v = i
      · rw [e, if_pos rfl, if_pos (show (i : Int) < ((i + 1 : Nat) : Int) by omega), hx]
        rfl
      · rw [if_neg e]
        by_cases z : v < i
        · rw [if_pos z, if_pos (show v < ((i + 1 : Nat) : Int) by omega)]
        · rw [if_neg z, if_neg (show ¬ v < ((i + 1 : Nat) : Int) by omega)]
    refine s_if (et_Lend (ev_var rfl) hw2 (ev_var rfl) i0 hi) (fun hb H3 e3 => ?_) fun hb H3 e3 => ?_
    · have hm : (wSrt L).mov i = false := by simpa using hb
      have hw3 := hw2.mono e3
      refine s_setR (e3 _ _ h2) (ev_fn (ea_cons (ev_LD (ev_var rfl) hw3 (ev_var rfl) i0 hi) (ea_cons (ev_var rfl) ea_nil)) (spv_law_due_at (hw3.hg i i0 hi))) (ev_var rfl) (ev_var rfl) i0 hi fun H4 e4 => ?_
      refine ⟨⟨_, rfl⟩, Ex.mut (e2.trans (e3.trans e4)) na, ?_⟩
      rw [upd_same]
      congr 2
      exact rowV_congr (nxt _ (by rw [if_neg (by rw [hm]; exact Bool.false_ne_true)]))
    · have hm : (wSrt L).mov i = true := by simpa using hb
      refine s_if (et_test (ev_inC (ev_var rfl) (ev_var rfl) (hc.mono (e2.trans e3)))) (fun hcb H4 e4 => ?_) fun hcb H4 e4 => ?_
      · have e24 := e2.trans (e3.trans e4)
        refine s_setR ((e3.trans e4) _ _ h2) (ev_fn (ea_cons (ev_var rfl) (ea_cons (ev_var rfl) (ea_cons (ev_var rfl) (ea_cons (ev_var rfl) ea_nil)))) (spv_law_price (hw.mono e24) (hr.mono e24) i0 hi hm)) (ev_var rfl) (ev_var rfl) i0 hi fun H5 e5 => ?_
        refine ⟨⟨_, rfl⟩, Ex.mut (e24.trans e5) na, ?_⟩
        rw [upd_same]
        congr 2
        exact rowV_congr (nxt _ (by rw [if_pos hm, if_pos hcb]))
      · refine ⟨⟨_, rfl⟩, e2.trans (e3.trans e4), ?_⟩
        rw [(e3.trans e4) _ _ h2]
        congr 2
        refine rowV_congr fun v h0 h1 => ?_
        unfold law0
        by_cases e : v = i
        · rw [e, if_neg (show ¬ (i : Int) < i by omega), if_pos (show (i : Int) < ((i + 1 : Nat) : Int) by omega), if_pos hm, if_neg (by rw [hcb]; exact Bool.false_ne_true)]
        · by_cases z : v < i
          · rw [if_pos z, if_pos (show v < ((i + 1 : Nat) : Int) by omega)]
          · rw [if_neg z, if_neg (show ¬ v < ((i + 1 : Nat) : Int) by omega)]
  · rintro σ' H2 ⟨⟨v5, rfl⟩, e2, h2⟩
    rw [Int.toNat_natCast] at h2
    have hf0 : ∀ v : Int, 0 ≤ v → v < L.n → law0 (wSrt L) C (k + 1) X L.n v = if (wSrt L).mov v = true then (if C v = true then price (wSrt L) X v else k + 1) else dueAt ((wSrt L).due v) (k + 1) := fun v h0 h1 => by
      unfold law0
      rw [if_pos h1]
    have ru : RU (wSrt L) C (k + 1) X (fun _ => k + 1) (law0 (wSrt L) C (k + 1) X L.n) := RU.start ok (by omega) (fun v a b => (hX v a b).1) (fun _ _ _ => by omega) hf0
    have hle : ∀ v : Int, 0 ≤ v → v < L.n → law0 (wSrt L) C (k + 1) X L.n v ≤ k + 1 := fun v h0 h1 => by
      rw [hf0 v h0 h1]
      split
      · rename_i hm
        split
        · exact price_le ok h0 h1 hm fun w a b => (hX w a b).2
        · exact Int.le_refl _
      · exact (dueAt_rng _ (k + 1) (hw.ok.du v h0 h1) (by omega)).2
    have hlen : Ev (tCB (rLenS K) (tCons (tVar 3) tNil)) [some (.ref lw), some (.int k), some (.ref c), some (.ref r), some (.ref pa), v5, none, none, none] H2 (.int (L.n : Int)) := ev_lenR (ev_var rfl) (hr.mono e2)
    refine q_forR1 (n := (L.n : Int) * (k + 1) + 1) (ea_cons (ev_I (ev_Ic hlen (ev_I (ev_var rfl) ev_c) (by unfold CMul; omega)) ev_c) ea_nil) ⟨by rw [hN]; omega, by rw [hN]; omega⟩
      (fun t σ' H' => ∃ f pa v5 v6 v7, σ' = [some (.ref lw), some (.int k), some (.ref c), some (.ref r), some (.ref pa), v5, v6, v7, none] ∧ Ex H H' ∧ H pa = none ∧ H' pa = some (.lst (rowV L.n f)) ∧ RU (wSrt L) C (k + 1) X (fun _ => k + 1) f ∧ (∀ v : Int, 0 ≤ v → v < L.n → fre (wSrt L) C v = true → price (wSrt L) f v ≤ f v) ∧ t + sumTo L.n f ≤ L.n * (k + 1).toNat) ?_ ?_ ?_
    · intro H3 e3
      refine ⟨_, pa, _, _, _, rfl, e2.trans e3, na, e3 _ _ h2, ru, fun v h0 h1 hf => ?_, ?_⟩
      · have hm := (fre_iff.mp hf).1
        have hcf := (fre_iff.mp hf).2
        have e9 := hf0 v h0 h1
        rw [if_pos hm, if_neg (by rw [hcf]; exact Bool.false_ne_true)] at e9
        rw [e9]
        exact price_le ok h0 h1 hm hle
      · rw [Nat.zero_add]
        exact sumTo_bound L.n hle
    · rintro t σ' H3 ht ⟨f, pa, v5, v6, v7, rfl, e3, na, h3, ru, hpf, hsum⟩
      refine q_asgL (el_listA (xs := rowV L.n f) (ev_var rfl) (.lst h3)) fun pg H4 ng e4 h4 => ?_
      have hne : pa ≠ pg := fun z => by rw [← z, h3] at ng; cases ng
      have ng := fresh_back e3 ng
      refine q_forR1 (n := (L.n : Int)) (ea_cons (ev_lenR (ev_var rfl) (hr.mono (e3.trans e4))) ea_nil) ⟨by omega, by omega⟩ (fun i σ' H' => (∃ v5, σ' = [some (.ref lw), some (.int k), some (.ref c), some (.ref r), some (.ref pa), v5, some (.int t), some (.ref pg), none]) ∧ Ex H H' ∧ H' pa = some (.lst (rowV L.n f)) ∧ H' pg = some (.lst (rowV L.n (lawP (wSrt L) C f i)))) ?_ ?_ ?_
      · intro H5 e5
        refine ⟨⟨_, rfl⟩, e3.trans (e4.trans e5), (e4.trans e5) _ _ h3, ?_⟩
        rw [e5 _ _ h4]
        refine congrArg (fun l => some (HO.lst l)) (rowV_congr fun v h0 h1 => ?_)
        unfold lawP
        rw [if_neg (fun z => by have := z.1; omega)]
      · rintro i σ' H5 hi ⟨⟨v5, rfl⟩, e5, a1, a2⟩
        have i0 : (0 : Int) ≤ i := by omega
        have hw5 := hw.mono e5
        refine s_when (et_and (et_Lmov (ev_var rfl) hw5 (ev_var rfl) i0 hi) fun _ => et_test (ev_ninC (ev_var rfl) (ev_var rfl) (hc.mono e5))) (fun hb H6 e6 => ?_) fun hb H6 e6 => ?_
        · have hm : (wSrt L).mov i = true := (Bool.and_eq_true_iff.mp hb).1
          refine s_setR (e6 _ _ a2) (ev_fn (ea_cons (ev_var rfl) (ea_cons (ev_var rfl) (ea_cons (ev_var rfl) (ea_cons (ev_var rfl) ea_nil)))) (spv_law_price (hw5.mono e6) (.lst (e6 _ _ a1)) i0 hi hm)) (ev_var rfl) (ev_var rfl) i0 hi fun H7 e7 => ?_
          refine ⟨⟨_, rfl⟩, Ex.mut (e5.trans (e6.trans e7)) ng, ?_, ?_⟩
          · rw [upd_ne hne]
            exact (e6.trans e7) _ _ a1
          · rw [upd_same]
            congr 2
            refine rowV_congr fun v h0 h1 => ?_
            unfold setF lawP
            by_cases e : v = i
            · rw [e, if_pos rfl, if_pos (show (i : Int) < ((i + 1 : Nat) : Int) ∧ fre (wSrt L) C i = true from ⟨by omega, hb⟩)]
            · rw [if_neg e]
              by_cases z : v < i ∧ fre (wSrt L) C v = true
              · rw [if_pos z, if_pos (show v < ((i + 1 : Nat) : Int) ∧ fre (wSrt L) C v = true from ⟨by omega, z.2⟩)]
              · rw [if_neg z, if_neg (show ¬ (v < ((i + 1 : Nat) : Int) ∧ fre (wSrt L) C v = true) from fun y => z ⟨by have := y.1; omega, y.2⟩)]
        · refine ⟨⟨_, rfl⟩, e5.trans e6, e6 _ _ a1, ?_⟩
          rw [e6 _ _ a2]
          congr 2
          refine rowV_congr fun v h0 h1 => ?_
          unfold lawP
          by_cases z : v < i ∧ fre (wSrt L) C v = true
          · rw [if_pos z, if_pos (show v < ((i + 1 : Nat) : Int) ∧ fre (wSrt L) C v = true from ⟨by omega, z.2⟩)]
          · rw [if_neg z, if_neg (show ¬ (v < ((i + 1 : Nat) : Int) ∧ fre (wSrt L) C v = true) from fun y => z ⟨by
              by_cases e : v = i
              · have y2 := y.2
                rw [e] at y2
                unfold fre at y2
                rw [y2] at hb
                cases hb
              · have := y.1
                omega, y.2⟩)]
      · rintro σ' H5 ⟨⟨v5, rfl⟩, e5, a1, a2⟩
        rw [Int.toNat_natCast] at a2
        have eqP : ∀ v : Int, 0 ≤ v → v < L.n → lawP (wSrt L) C f L.n v = stepF (wSrt L) C f v := fun v h0 h1 => by
          unfold lawP stepF
          by_cases z : fre (wSrt L) C v = true
          · rw [if_pos ⟨h1, z⟩]
            have := hpf v h0 h1 z
            by_cases y : price (wSrt L) f v < f v
            · rw [if_pos ⟨z, y⟩]
            · rw [if_neg fun u => y u.2]
              omega
          · rw [if_neg fun y => z y.2, if_neg fun y => z y.1]
        rw [rowV_congr eqP] at a2
        refine q_when (et_test (ev_eqL (l := (ran L.n).map (stepF (wSrt L) C f)) (l' := (ran L.n).map f) (ev_var rfl) (ev_var rfl) (by rw [← rowV_int]; exact sq_of a2) (by rw [← rowV_int]; exact sq_of a1))) (fun hb H6 e6 => ?_) fun hb H6 e6 => ?_
        · have heq := of_decide_eq_true hb
          refine s_ret (ev_var rfl) fun H7 e7 => q pa H7 f na (e5.trans (e6.trans e7)) ((e6.trans e7) _ _ a1) (ru.stop fun v h0 h1 hf => ?_)
          have := rowV_eq heq h0 h1
          unfold stepF at this
          split at this
          · rename_i z
            have := z.2
            omega
          · rename_i z
            exact Int.not_lt.mp fun y => z ⟨hf, y⟩
        · have hex : ∃ v : Int, 0 ≤ v ∧ v < (wSrt L).n ∧ fre (wSrt L) C v = true ∧ price (wSrt L) f v < f v := by
            apply Classical.byContradiction
            intro no
            refine of_decide_eq_false hb (List.map_congr_left fun v hv => ?_)
            obtain ⟨h0, h1⟩ := mem_ran.mp hv
            unfold stepF
            rw [if_neg fun z => no ⟨v, h0, h1, z.1, z.2⟩]
          have hlt := RU.sum ok ru hex
          have hlt2 : sumTo L.n (stepF (wSrt L) C f) < sumTo L.n f := hlt
          refine s_asg (ev_var rfl) fun H7 e7 => ⟨stepF (wSrt L) C f, pg, _, _, _, rfl, e5.trans (e6.trans e7), ng, (e6.trans e7) _ _ a2, RU.step ok ru, fun v h0 h1 hf => ?_, by omega⟩
          have hm := (fre_iff.mp hf).1
          have e8 : stepF (wSrt L) C f v = price (wSrt L) f v := by
            rw [← eqP v h0 h1]
            unfold lawP
            rw [if_pos ⟨h1, hf⟩]
          rw [e8]
          exact price_mono ok h0 h1 hm fun w _ _ => stepF_le w
    · rintro σ' H3 ⟨f, pa, v5, v6, v7, rfl, e3, na, h3, ru, hpf, hsum⟩
      exfalso
      rw [hN] at hsum
      omega
end
theorem d__law_round {P : Program} {w : World} {K : Frag} {mg : Str → Option Value} {base : Heap} (T : Txt w K mg) {f : Addr} {cdv : Value} {A : Around} {outer : List Env} {s : Shared} {H : Hp} {E : XK} (hr : Room 2 (A.deeper (envOfC "_law_round" (defScope s__law_round) s.heap.objs.size f cdv))) :
    PSs (cxOf CX0 P w K mg base N__law_round "_law_round" (defScope s__law_round) f cdv A outer s H E).nox (defBody s__law_round) (t__law_round K) := by
  exact (pss_cons (ps_setLc (i := 4) (own := [("_law_part", 8)]) (g := gName 8) (tt := tYes) (te := (tOp rAdd (tVar 1) (tC (.int 1)))) rfl sc__law_round.nd rfl rfl (sw_true rfl rfl rfl (by decide +kernel)) (pi_seq (pv 3)) (blkOk_by (N := N__law_round) (sc := defScope s__law_round) (by decide +kernel)) (fun _ _ _ _ _ => pg_name (i := 8) sc__law_round.nd rfl (Or.inl rfl)) (fun _ _ _ _ _ => pts_nil) (fun _ _ _ _ _ => (pe_op op_add (pv 1) pe_int)))
    (pss_cons (ps_for PassesOwn.never rfl (pi_range1 (by rfl) (T.free (memOf 1 rfl)) (pa_cons (pe_callB call_len_seq (by rfl) (T.free (memOf 0 rfl)) b_len (pa_cons (pv 3) pa_nil)) pa_nil)) (pg_name (i := 5) sc__law_round.nd rfl (Or.inl rfl)) (pss_one (ps_if (pt_cmpR op_eq (pe_callB call_len_seq (by rfl) (T.free (memOf 0 rfl)) b_len (pa_cons (pe_ix ix_seq (pe_ix ix_seq (pv 0) pe_int (fun _ _ => rfl)) (pv 5) (fun _ _ => rfl)) pa_nil)) pe_int (nomark _)) (pss_one (ps_asg (pe_f (ok__law_due_at T) hr (by decide) (by rfl) (pa_cons (pe_ix ix_seq (pe_ix ix_seq (pv 0) pe_int (fun _ _ => rfl)) (pv 5) (fun _ _ => rfl)) (pa_cons (pv 1) pa_nil))) (pg_sub (pv 4) (pv 5) set_list))) (pss_one (ps_if (pt_cmpR op_in_seq (pv 5) (pv 2) (by rfl)) (pss_one (ps_asg (pe_f (ok__law_price T) hr (by decide) (by rfl) (pa_cons (pv 0) (pa_cons (pv 1) (pa_cons (pv 3) (pa_cons (pv 5) pa_nil))))) (pg_sub (pv 4) (pv 5) set_list))) pss_nil)))))
    (pss_cons (ps_for PassesOwn.never rfl (pi_range1 (by rfl) (T.free (memOf 1 rfl)) (pa_cons (pe_op op_add (pe_op op_mul (pe_callB call_len_seq (by rfl) (T.free (memOf 0 rfl)) b_len (pa_cons (pv 3) pa_nil)) (pe_op op_add (pv 1) pe_int)) pe_int) pa_nil)) (pg_name (i := 6) sc__law_round.nd rfl (Or.inl rfl)) (pss_cons (ps_set (i := 7) sc__law_round.nd rfl (Or.inl rfl) (pe_callTy call_list_of (by rfl) (T.free (memOf 7 rfl)) b_list (pa_cons (pv 4) pa_nil)))
    (pss_cons (ps_for PassesOwn.never rfl (pi_range1 (by rfl) (T.free (memOf 1 rfl)) (pa_cons (pe_callB call_len_seq (by rfl) (T.free (memOf 0 rfl)) b_len (pa_cons (pv 3) pa_nil)) pa_nil)) (pg_name (i := 5) sc__law_round.nd rfl (Or.inl rfl)) (pss_one (ps_if (PW.pt (pw_and (pt_cmpR op_gt (pe_callB call_len_seq (by rfl) (T.free (memOf 0 rfl)) b_len (pa_cons (pe_ix ix_seq (pe_ix ix_seq (pv 0) pe_int (fun _ _ => rfl)) (pv 5) (fun _ _ => rfl)) pa_nil)) pe_int (nomark _)) (pw_and1 (pt_cmpR op_notIn_seq (pv 5) (pv 2) (by rfl))))) (pss_one (ps_asg (pe_f (ok__law_price T) hr (by decide) (by rfl) (pa_cons (pv 0) (pa_cons (pv 1) (pa_cons (pv 4) (pa_cons (pv 5) pa_nil))))) (pg_sub (pv 7) (pv 5) set_list))) pss_nil)))
    (pss_cons (ps_if (pt_cmpR (op_eqD hr.units) (pv 7) (pv 4) (nomark _)) (pss_one (ps_ret (pv 4))) pss_nil)
    (pss_one (ps_set (i := 4) sc__law_round.nd rfl (Or.inl rfl) (pv 7)))))))
    (pss_one (ps_ret (pv 4))))))
theorem ok__law_round {P : Program} {w : World} {K : Frag} {mg : Str → Option Value} {base : Heap} (T : Txt w K mg) : GF P w K mg base "_law_round" 3 (sp__law_round K) := by
  have F := T.def_ (d := xf__law_round) (memOf 85 rfl) rfl
  refine ⟨fnr_mk (k := 2) F sc__law_round (fun _ _ _ _ _ _ us hl => match us, hl with | [_, _, _, _], _ => rfl) (fun vs H Q E h => len__law_round h) (fun cdv A outer s H vs Q E hr h => ⟨t__law_round K, d__law_round T hr, pure__law_round T h⟩), ?_, T.glo (memOf 59 rfl)⟩
  obtain ⟨fd, F⟩ := F
  exact F.kp
theorem spx_law_round {K : Frag} {H : Hp} {pot lw c r : Addr} {L : Wb} {A : LWA} {k : Int} {C : Int → Bool} {l : List Int} {X : Int → Int} (hw : LawW K H pot lw L A) (hc : CAt K H c (wSrt L) C l) (hr : SqA K H r (rowV L.n X)) (hk : 0 ≤ k) (hk2 : k ≤ 1000) (hX : ∀ v : Int, 0 ≤ v → v < L.n → 0 ≤ X v ∧ X v ≤ k + 1) :
    SpX (sp__law_round K) [.ref lw, .int k, .ref c, .ref r] H (fun y H' => ∃ p Y, y = .ref p ∧ H p = none ∧ H' p = some (.lst (rowV L.n Y)) ∧ IsRound (wSrt L) C (k + 1) X (fun _ => k + 1) Y) :=
  fun H1 e Q q E => ⟨pot, lw, L, A, k, c, C, l, r, X, rfl, hw.mono e, hc.mono e, hr.mono e, hk, hk2, hX, fun p H2 Y np e2 hp hy => q _ H2 e2 ⟨p, Y, rfl, fresh_back e np, hp, hy⟩⟩
def sp__law_forever (K : Frag) : Sp := fun vs H Q _ => ∃ pot lw L A k c C l, vs = [.ref lw, .int k, .ref c] ∧ LawW K H pot lw L A ∧ CAt K H c (wSrt L) C l ∧ 0 ≤ k ∧ k ≤ 1000 ∧
  ∀ p H', H p = none → Ex H H' → H' p = some (.lst (rowV L.n (eX (wSrt L) C k))) → IsEver (wSrt L) C (k + 1) (eX (wSrt L) C k) → Q (.ref p) H'
/-! _law_forever -/
abbrev N__law_forever : List Str := ["_law_web_here", "_law_k", "_law_calls_here", "_law_row", "_law_turn", "_law_after", "_law_due_here"]
abbrev s__law_forever : Stmt := top 93
theorem sc__law_forever : FnScope N__law_forever ["_law_web_here", "_law_k", "_law_calls_here"] (defScope s__law_forever) := ⟨rfl, rfl, rfl, by decide +kernel, rfl, by decide +kernel, by decide +kernel⟩
def t__law_forever (K : Frag) : TS := (tSeq (tAsg (tLc (iSeq K (tOp (rIx K) (tVar 0) (tC (.int 3)))) (gName 6) tYes (tC (.int 0)) [6]) (gName 3))
    (tSeq (tFor (iRng1 (tCons (tOp rAdd (tOp rMul (tCB (rLenS K) (tCons (tVar 3) tNil)) (tOp rAdd (tVar 1) (tC (.int 1)))) (tC (.int 1))) tNil)) (gName 4) (tSeq (tAsg (tFn (sp__law_round K) (tCons (tVar 0) (tCons (tVar 1) (tCons (tVar 2) (tCons (tVar 3) tNil))))) (gName 5))
    (tSeq (tIfS (tTest (tOp (rEqD K) (tVar 5) (tVar 3))) (tRet (tVar 3)) tNext)
    (tAsg (tVar 5) (gName 3)))))
    (tRet (tVar 3))))
section
variable {w : World} {K : Frag} {mg : Str → Option Value} {vs : List V} {H : Hp} {Q : VK} {E : XK}
theorem len__law_forever (h : sp__law_forever K vs H Q E) : vs.length = 3 := by obtain ⟨pot, lw, L, A, k, c, C, l, rfl, _⟩ := h; rfl
theorem pure__law_forever (T : Txt w K mg) (h : sp__law_forever K vs H Q E) : t__law_forever K (E1 Q) (start N__law_forever vs) H := by
  obtain ⟨pot, lw, L, A, k, c, C, l, rfl, hw, hc, hk, hk2, q⟩ := h
  have hn := hw.n60
  have ok := wSrt_ok hw.ok
  obtain ⟨hN, hNb⟩ := turns hk hk2 hn
  have el := el_lc (K := K) (σ := start N__law_forever [.ref lw, .int k, .ref c]) (H := H) (tl := tOp (rIx K) (tVar 0) (tC (.int 3))) (t := tYes) (te := tC (.int 0)) (j := 6) (ws := [6]) (l := ran L.n) (emb := A.g) (f := fun _ => true) (g := fun _ => V.int 0)
    (ea_of (ev_L3 (ev_var rfl) hw) (.l hw.hd.2)) (by rw [ran_len]; omega) (fun _ => rfl) (fun _ _ _ _ => et_yes) (fun _ _ _ _ _ => ev_c)
  rw [filter_yes] at el
  have el2 : EvL (tLc (iSeq K (tOp (rIx K) (tVar 0) (tC (.int 3)))) (gName 6) tYes (tC (.int 0)) [6]) (start N__law_forever [.ref lw, .int k, .ref c]) H (rowV L.n fun _ => 0) := by
    rw [rowV_ran]
    exact el
  refine q_asgL el2 fun pr H1 nr e1 hpr => ?_
  have hlen : Ev (tCB (rLenS K) (tCons (tVar 3) tNil)) [some (.ref lw), some (.int k), some (.ref c), some (.ref pr), none, none, none] H1 (.int (L.n : Int)) := ev_lenR (ev_var rfl) (.lst hpr)
  refine q_forR1 (n := (L.n : Int) * (k + 1) + 1) (ea_cons (ev_I (ev_Ic hlen (ev_I (ev_var rfl) ev_c) (by unfold CMul; omega)) ev_c) ea_nil) ⟨by rw [hN]; omega, by rw [hN]; omega⟩
    (fun t σ' H' => ∃ X pr v4 v5, σ' = [some (.ref lw), some (.int k), some (.ref c), some (.ref pr), v4, v5, none] ∧ Ex H H' ∧ H pr = none ∧ H' pr = some (.lst (rowV L.n X)) ∧ Visit (wSrt L) C (k + 1) X ∧ t ≤ sumTo L.n X) ?_ ?_ ?_
  · intro H2 e2
    exact ⟨_, pr, _, _, rfl, e1.trans e2, nr, e2 _ _ hpr, visit_start ok (by omega), Nat.zero_le _⟩
  · rintro t σ' H2 ht ⟨X, pr, v4, v5, rfl, e2, nr, h2, hv, hs⟩
    refine q_asgX (evx_fn (ea_cons (ev_var rfl) (ea_cons (ev_var rfl) (ea_cons (ev_var rfl) (ea_cons (ev_var rfl) ea_nil)))) (spx_law_round (hw.mono e2) (hc.mono e2) (.lst h2) hk hk2 hv.rng)) fun y H3 e3 ⟨pa, Y, ey, na, h3, hY⟩ => ?_
    subst ey
    have st := visit_step ok (by omega) hv hY
    refine q_when (et_test (ev_eqL (l := (ran L.n).map Y) (l' := (ran L.n).map X) (ev_var rfl) (ev_var rfl) (by rw [← rowV_int]; exact sq_of h3) (by rw [← rowV_int]; exact sq_of (e3 _ _ h2)))) (fun hb H4 e4 => ?_) fun hb H4 e4 => ?_
    · have heq := of_decide_eq_true hb
      have hev := visit_end ok hv hY fun v h0 h1 => rowV_eq heq h0 h1
      have qX := ever_eq hev
      refine s_ret (ev_var rfl) fun H5 e5 => q pr H5 nr (e2.trans (e3.trans (e4.trans e5))) ?_ (hev.congr ok qX.symm)
      rw [(e3.trans (e4.trans e5)) _ _ h2, ← rowV_congr (n := L.n) qX]
    · have hex : ∃ v : Int, 0 ≤ v ∧ v < L.n ∧ X v < Y v := by
        apply Classical.byContradiction
        intro no
        refine of_decide_eq_false hb (List.map_congr_left fun v hv' => ?_)
        obtain ⟨h0, h1⟩ := mem_ran.mp hv'
        have := st.1 v h0 h1
        exact Int.le_antisymm (Int.not_lt.mp fun z => no ⟨v, h0, h1, z⟩) this
      have hlt := sumTo_lt L.n (fun v h0 h1 => ⟨(hv.rng v h0 h1).1, st.1 v h0 h1⟩) hex
      exact s_asg (ev_var rfl) fun H5 e5 => ⟨Y, pa, _, _, rfl, e2.trans (e3.trans (e4.trans e5)), fresh_back e2 na, (e4.trans e5) _ _ h3, st.2, by omega⟩
  · rintro σ' H2 ⟨X, pr, v4, v5, rfl, e2, nr, h2, hv, hs⟩
    exfalso
    have := sumTo_bound (f := X) (K := k + 1) L.n fun v h0 h1 => (hv.rng v h0 h1).2
    rw [hN] at hs
    omega
end
theorem d__law_forever {P : Program} {w : World} {K : Frag} {mg : Str → Option Value} {base : Heap} (T : Txt w K mg) {f : Addr} {cdv : Value} {A : Around} {outer : List Env} {s : Shared} {H : Hp} {E : XK} (hr : Room 3 (A.deeper (envOfC "_law_forever" (defScope s__law_forever) s.heap.objs.size f cdv))) :
    PSs (cxOf CX0 P w K mg base N__law_forever "_law_forever" (defScope s__law_forever) f cdv A outer s H E).nox (defBody s__law_forever) (t__law_forever K) := by
  exact (pss_cons (ps_setLc (i := 3) (own := [("_law_due_here", 6)]) (g := gName 6) (tt := tYes) (te := (tC (.int 0))) rfl sc__law_forever.nd rfl rfl (sw_true rfl rfl rfl (by decide +kernel)) (pi_seq (pe_ix ix_seq (pv 0) pe_int (fun _ _ => rfl))) (blkOk_by (N := N__law_forever) (sc := defScope s__law_forever) (by decide +kernel)) (fun _ _ _ _ _ => pg_name (i := 6) sc__law_forever.nd rfl (Or.inl rfl)) (fun _ _ _ _ _ => pts_nil) (fun _ _ _ _ _ => pe_int))
    (pss_cons (ps_for PassesOwn.never rfl (pi_range1 (by rfl) (T.free (memOf 1 rfl)) (pa_cons (pe_op op_add (pe_op op_mul (pe_callB call_len_seq (by rfl) (T.free (memOf 0 rfl)) b_len (pa_cons (pv 3) pa_nil)) (pe_op op_add (pv 1) pe_int)) pe_int) pa_nil)) (pg_name (i := 4) sc__law_forever.nd rfl (Or.inl rfl)) (pss_cons (ps_set (i := 5) sc__law_forever.nd rfl (Or.inl rfl) (pe_f (ok__law_round T) hr (by decide) (by rfl) (pa_cons (pv 0) (pa_cons (pv 1) (pa_cons (pv 2) (pa_cons (pv 3) pa_nil))))))
    (pss_cons (ps_if (pt_cmpR (op_eqD hr.units) (pv 5) (pv 3) (nomark _)) (pss_one (ps_ret (pv 3))) pss_nil)
    (pss_one (ps_set (i := 3) sc__law_forever.nd rfl (Or.inl rfl) (pv 5))))))
    (pss_one (ps_ret (pv 3)))))
theorem ok__law_forever {P : Program} {w : World} {K : Frag} {mg : Str → Option Value} {base : Heap} (T : Txt w K mg) : GF P w K mg base "_law_forever" 4 (sp__law_forever K) := by
  have F := T.def_ (d := xf__law_forever) (memOf 86 rfl) rfl
  refine ⟨fnr_mk (k := 3) F sc__law_forever (fun _ _ _ _ _ _ us hl => match us, hl with | [_, _, _], _ => rfl) (fun vs H Q E h => len__law_forever h) (fun cdv A outer s H vs Q E hr h => ⟨t__law_forever K, d__law_forever T hr, pure__law_forever T h⟩), ?_, T.glo (memOf 60 rfl)⟩
  obtain ⟨fd, F⟩ := F
  exact F.kp
theorem spx_law_forever {K : Frag} {H : Hp} {pot lw c : Addr} {L : Wb} {A : LWA} {k : Int} {C : Int → Bool} {l : List Int} (hw : LawW K H pot lw L A) (hc : CAt K H c (wSrt L) C l) (hk : 0 ≤ k) (hk2 : k ≤ 1000) :
    SpX (sp__law_forever K) [.ref lw, .int k, .ref c] H (fun y H' => ∃ p, y = .ref p ∧ H p = none ∧ H' p = some (.lst (rowV L.n (eX (wSrt L) C k))) ∧ IsEver (wSrt L) C (k + 1) (eX (wSrt L) C k)) :=
  fun H1 e Q q E => ⟨pot, lw, L, A, k, c, C, l, rfl, hw.mono e, hc.mono e, hk, hk2, fun p H2 np e2 hp hy => q _ H2 e2 ⟨p, rfl, fresh_back e np, hp, hy⟩⟩
end Pw
end

section
set_option maxRecDepth 100000
set_option maxHeartbeats 4000000
/-! The law's ranks and counts. -/
namespace Pw
open PySem PySem.Spec L2 Evl StX PwS SlX
open PyProof.Rows hiding St
theorem up1_b1 (X : Int → Int) (p : Int → Bool) (v : Int) : X v + b1 (p v) = up1 X p v := by
  unfold b1 up1
  split <;> omega
theorem dn1_b1 (X : Int → Int) (p : Int → Bool) (v : Int) : X v - b1 (p v) = dn1 X p v := by
  unfold b1 dn1
  split <;> omega
theorem l0R_law (W : Wb) (C : Int → Bool) (k : Int) (X : Int → Int) : ((ran W.n).filter fun v => W.mov v && (!C v && decide (X v ≤ k))) = l0R W C (k + 1) X := by
  show (ran W.n).filter _ = (ran W.n).filter _
  refine List.filter_congr fun v _ => ?_
  congr 2
  rw [Bool.eq_iff_iff, decide_eq_true_iff, decide_eq_true_iff]
  omega
theorem l0C_law (W : Wb) (X : Int → Int) : ((ran W.n).filter fun v => W.mov v && decide (1 ≤ X v)) = l0C W X := rfl
def sp__law_call_ranks (K : Frag) : Sp := fun vs H Q _ => ∃ pot lw L A k c C l r X, vs = [.ref lw, .int k, .ref c, .ref r] ∧ LawW K H pot lw L A ∧ CAt K H c (wSrt L) C l ∧ SqA K H r (rowV L.n X) ∧ 0 ≤ k ∧ k ≤ 1000 ∧ 
  ∀ p p1 z H', H p1 = none → Ex H H' → SqL K H' p [.ref p1, z] → H' p1 = some (.lst (rowV L.n (rnk (lvR (wSrt L) X) (l0R (wSrt L) C (k + 1) X) L.n))) → Q (.ref p) H'
/-! _law_call_ranks -/
abbrev N__law_call_ranks : List Str := ["_law_web_here", "_law_k", "_law_calls_here", "_law_row", "_law_left", "_law_ranks", "_law_turn", "_law_raised", "_law_out", "_law_v", "_law_part", "_law_at"]
abbrev s__law_call_ranks : Stmt := top 95
theorem sc__law_call_ranks : FnScope N__law_call_ranks ["_law_web_here", "_law_k", "_law_calls_here", "_law_row"] (defScope s__law_call_ranks) := ⟨rfl, rfl, rfl, by decide +kernel, rfl, by decide +kernel, by decide +kernel⟩
def t__law_call_ranks (K : Frag) : TS := (tSeq (tAsg (tLc (iRng1 (tCons (tCB (rLenS K) (tCons (tVar 3) tNil)) tNil)) (gName 9) (tAnd (tTest (tOp rGt (tCB (rLenS K) (tCons (tOp (rIx K) (tOp (rIx K) (tVar 0) (tC (.int 0))) (tVar 9)) tNil)) (tC (.int 0)))) (tAnd (tTest (tOp (rIn K true) (tVar 9) (tVar 2))) (tTest (tOp rLe (tOp (rIx K) (tVar 3) (tVar 9)) (tVar 1))))) (tVar 9) [9]) (gName 4))
    (tSeq (tAsg (tLc (iSeq K (tVar 3)) (gName 10) tYes (tC (.int 0)) [10]) (gName 5))
    (tSeq (tFor (iRng1 (tCons (tCB (rLenS K) (tCons (tVar 3) tNil)) tNil)) (gName 6) (tSeq (tAsg (tLc (iRng1 (tCons (tCB (rLenS K) (tCons (tVar 3) tNil)) tNil)) (gName 11) tYes (tOp rAdd (tOp (rIx K) (tVar 3) (tVar 11)) (tCB rInt1 (tCons (tOp (rIn K false) (tVar 11) (tVar 4)) tNil))) [11]) (gName 7))
    (tSeq (tAsg (tLc (iSeq K (tVar 4)) (gName 9) (tTest (tOp rLe (tFn (sp__law_price K) (tCons (tVar 0) (tCons (tVar 1) (tCons (tVar 7) (tCons (tVar 9) tNil))))) (tOp (rIx K) (tVar 3) (tVar 9)))) (tVar 9) [9]) (gName 8))
    (tSeq (tFor (iSeq K (tVar 8)) (gName 9) (tAsg (tOp rAdd (tVar 6) (tC (.int 1))) (gSub (tVar 5) (tVar 9) rSetL)))
    (tAsg (tLc (iSeq K (tVar 4)) (gName 9) (tTest (tOp (rIn K true) (tVar 9) (tVar 8))) (tVar 9) [9]) (gName 4))))))
    (tRet (tLst (tCons (tVar 5) (tCons (tVar 4) tNil)))))))
section
variable {w : World} {K : Frag} {mg : Str → Option Value} {vs : List V} {H : Hp} {Q : VK} {E : XK}
theorem len__law_call_ranks (h : sp__law_call_ranks K vs H Q E) : vs.length = 4 := by obtain ⟨pot, lw, L, A, k, c, C, l, r, X, rfl, _⟩ := h; rfl
theorem pure__law_call_ranks (T : Txt w K mg) (h : sp__law_call_ranks K vs H Q E) : t__law_call_ranks K (E1 Q) (start N__law_call_ranks vs) H := by
  obtain ⟨pot, lw, L, A, k, c, C, l, r, X, rfl, hw, hc, hr, hk, hk2, q⟩ := h
  have hn := hw.n60
  have ok := wSrt_ok hw.ok
  refine q_asgL (el_lrF (n := L.n) (p := fun v => (wSrt L).mov v && (!C v && decide (X v ≤ k))) (ea_cons (ev_lenR (ev_var rfl) hr) ea_nil) (by omega) (fun _ => rfl) (fun v H2 e2 b0 b1' => ?_) (fun _ _ => ev_var rfl)) fun pl H1 nl e1 hpl => ?_
  · exact et_and (et_Lmov (ev_var rfl) (hw.mono e2) (ev_var rfl) b0 b1') fun _ => et_and (et_test (ev_ninC (ev_var rfl) (ev_var rfl) (hc.mono e2))) fun _ => et_test (ev_I (ev_ixR (ev_var rfl) (ev_var rfl) (hr.mono e2) b0 b1') (ev_var rfl))
  have heq : ((ran L.n).filter fun v => (wSrt L).mov v && (!C v && decide (X v ≤ k))) = l0R (wSrt L) C (k + 1) X := l0R_law (wSrt L) C k X
  rw [heq] at hpl
  refine q_asgL (el_lcR (g := fun _ => 0) (ea_of (ev_var rfl) (hr.mono e1)) (by omega) (fun _ => rfl) (fun _ _ _ _ _ => ev_c)) fun pk H2 nk e2 hpk => ?_
  have hne : pk ≠ pl := fun z => by rw [z, hpl] at nk; cases nk
  have nk := fresh_back e1 nk
  refine q_forR1 (n := (L.n : Int)) (ea_cons (ev_lenR (ev_var rfl) (hr.mono (e1.trans e2))) ea_nil) ⟨by omega, by omega⟩ (fun t σ' H' => ∃ pl, Ex H H' ∧ pk ≠ pl ∧ H' pk = some (.lst (rowV L.n (rnk (lvR (wSrt L) X) (l0R (wSrt L) C (k + 1) X) t))) ∧ H' pl = some (.lst (intV (lft (lvR (wSrt L) X) (l0R (wSrt L) C (k + 1) X) t))) ∧
    ∃ v6 v7 v8 v9 v10 v11, σ' = [some (.ref lw), some (.int k), some (.ref c), some (.ref r), some (.ref pl), some (.ref pk), v6, v7, v8, v9, v10, v11]) ?_ ?_ ?_
  · intro H3 e3
    exact ⟨pl, e1.trans (e2.trans e3), hne, e3 _ _ hpk, (e2.trans e3) _ _ hpl, _, _, _, _, _, _, rfl⟩
  · rintro t σ' H4 ht ⟨pl, e4, hne, g1, g2, v6, v7, v8, v9, v10, v11, rfl⟩
    have hll := Nat.le_trans (lft_slen (lv := lvR (wSrt L) X) (l0 := l0R (wSrt L) C (k + 1) X) t) (l0R_len (wSrt L) C (k + 1) X)
    have hlL : (lft (lvR (wSrt L) X) (l0R (wSrt L) C (k + 1) X) t).length ≤ L.n := hll
    have hlin : ∀ v, v ∈ lft (lvR (wSrt L) X) (l0R (wSrt L) C (k + 1) X) t → 0 ≤ v ∧ v < L.n ∧ (wSrt L).mov v = true := fun v hv => by
      have := mem_l0R.mp (lft_anti (Nat.zero_le t) hv)
      exact ⟨this.1, this.2.1, this.2.2.1⟩
    refine q_asgL (el_lrR (n := L.n) (g := up1 X fun w => (lft (lvR (wSrt L) X) (l0R (wSrt L) C (k + 1) X) t).contains w) (ea_cons (ev_lenR (ev_var rfl) (hr.mono e4)) ea_nil) (by omega) (fun _ => rfl) (fun v H7 e7 h0 h1 =>
      ev_is (ev_I (ev_ixR (ev_var rfl) (ev_var rfl) (hr.mono (e4.trans e7)) h0 h1) (ev_intB (ev_in (ev_var rfl) (ev_var rfl) (.lst (e7 _ _ g2))))) (congrArg V.int (up1_b1 X (fun w => (lft (lvR (wSrt L) X) (l0R (wSrt L) C (k + 1) X) t).contains w) v)))) fun pz H7 nz e7 hpz => ?_
    have ee7 := e4.trans e7
    have g1 := e7 _ _ g1
    have g2 := e7 _ _ g2
    refine q_asgL (el_lcF (l := (lft (lvR (wSrt L) X) (l0R (wSrt L) C (k + 1) X) t)) (p := fun v => lvR (wSrt L) X (lft (lvR (wSrt L) X) (l0R (wSrt L) C (k + 1) X) t) v) (ea_of (ev_var rfl) (.lst g2)) (by omega) (fun _ => rfl) (fun v H8 e8 hv => ?_) (fun _ _ => ev_var rfl)) fun pw H8 nw e8 hpw => ?_
    · have b := hlin v hv
      exact et_test (ev_I (ev_fn (ea_cons (ev_var rfl) (ea_cons (ev_var rfl) (ea_cons (ev_var rfl) (ea_cons (ev_var rfl) ea_nil)))) (spv_law_price (hw.mono (ee7.trans e8)) (.lst (e8 _ _ hpz)) b.1 b.2.1 b.2.2)) (ev_ixR (ev_var rfl) (ev_var rfl) (hr.mono (ee7.trans e8)) b.1 b.2.1))
    have ee8 := ee7.trans e8
    have hnw : pk ≠ pw := fun z => by rw [← z, g1] at nw; cases nw
    have g1 := e8 _ _ g1
    have g2 := e8 _ _ g2
    refine q_forC (xs := intV ((lft (lvR (wSrt L) X) (l0R (wSrt L) C (k + 1) X) t).filter fun v => lvR (wSrt L) X (lft (lvR (wSrt L) X) (l0R (wSrt L) C (k + 1) X) t) v)) (ev_var rfl) (fun j σ' H' => (∃ v, σ' = [some (.ref lw), some (.int k), some (.ref c), some (.ref r), some (.ref pl), some (.ref pk), some (.int (t : Int)), some (.ref pz), some (.ref pw), v, v10, v11]) ∧ Ex H H' ∧ H' pk = some (.lst (rowV L.n (markF (rnk (lvR (wSrt L) X) (l0R (wSrt L) C (k + 1) X) t) (((lft (lvR (wSrt L) X) (l0R (wSrt L) C (k + 1) X) t).filter fun v => lvR (wSrt L) X (lft (lvR (wSrt L) X) (l0R (wSrt L) C (k + 1) X) t) v).take j) ((t : Int) + 1)))) ∧
      H' pl = some (.lst (intV (lft (lvR (wSrt L) X) (l0R (wSrt L) C (k + 1) X) t))) ∧ H' pw = some (.lst (intV ((lft (lvR (wSrt L) X) (l0R (wSrt L) C (k + 1) X) t).filter fun v => lvR (wSrt L) X (lft (lvR (wSrt L) X) (l0R (wSrt L) C (k + 1) X) t) v)))) ?_ (fun j σ' H' h => h.2.2.2.2) ?_ ?_
    · intro H10 e10
      refine ⟨⟨_, rfl⟩, ee8.trans e10, ?_, e10 _ _ g2, e10 _ _ hpw⟩
      rw [e10 _ _ g1]
      rfl
    · rintro j x σ' H10 hi ⟨⟨v, rfl⟩, e10, a1, a2, a3⟩
      obtain ⟨n, hn2, rfl⟩ := intV_at hi
      have h1 : n ∈ ((lft (lvR (wSrt L) X) (l0R (wSrt L) C (k + 1) X) t).filter fun v => lvR (wSrt L) X (lft (lvR (wSrt L) X) (l0R (wSrt L) C (k + 1) X) t) v) := List.mem_of_getElem? hn2
      have b := hlin n (List.mem_filter.mp h1).1
      refine s_setR a1 (ev_I (ev_var rfl) ev_c) (ev_var rfl) (ev_var rfl) b.1 b.2.1 fun H11 e11 => ?_
      refine ⟨⟨_, rfl⟩, Ex.mut (e10.trans e11) nk, ?_, ?_, ?_⟩
      · rw [upd_same, take_more hn2]
        congr 2
        exact rowV_congr fun v _ _ => markF_more v
      · rw [upd_ne hne.symm]
        exact e11 _ _ a2
      · rw [upd_ne hnw.symm]
        exact e11 _ _ a3
    · rintro σ' H10 ⟨⟨v, rfl⟩, e10, a1, a2, a3⟩
      rw [intV_len, List.take_length, rowV_congr fun v _ _ => markF_rnk v] at a1
      refine s_asgL (el_lcF (l := (lft (lvR (wSrt L) X) (l0R (wSrt L) C (k + 1) X) t)) (p := fun v => !((lft (lvR (wSrt L) X) (l0R (wSrt L) C (k + 1) X) t).filter fun v => lvR (wSrt L) X (lft (lvR (wSrt L) X) (l0R (wSrt L) C (k + 1) X) t) v).contains v) (ea_of (ev_var rfl) (.lst a2)) (by omega) (fun _ => rfl) (fun v H11 e11 hv => et_test (ev_notin (ev_var rfl) (ev_var rfl) (.lst (e11 _ _ a3)))) (fun _ _ => ev_var rfl)) fun pq H11 nq e11 hpq => ?_
      rw [lft_next] at hpq
      have hneq : pk ≠ pq := fun z => by rw [← z, a1] at nq; cases nq
      exact ⟨pq, e10.trans e11, hneq, e11 _ _ a1, hpq, _, _, _, _, _, _, by rfl⟩
  · rintro σ' H4 ⟨pl, e4, hne, g1, g2, v6, v7, v8, v9, v10, v11, rfl⟩
    rw [Int.toNat_natCast] at g1
    refine s_retX (EvL.toX (el_lst (vs := [.ref pk, .ref pl]) (ea_cons (ev_var rfl) (ea_cons (ev_var rfl) ea_nil)) (by show 2 ≤ 100000; decide))) fun y H5 e5 ⟨p, ey, hp⟩ => ?_
    subst ey
    exact q p pk _ H5 nk (e4.trans e5) (sq_of hp) (e5 _ _ g1)
end
theorem d__law_call_ranks {P : Program} {w : World} {K : Frag} {mg : Str → Option Value} {base : Heap} (T : Txt w K mg) {f : Addr} {cdv : Value} {A : Around} {outer : List Env} {s : Shared} {H : Hp} {E : XK} (hr : Room 2 (A.deeper (envOfC "_law_call_ranks" (defScope s__law_call_ranks) s.heap.objs.size f cdv))) :
    PSs (cxOf CX0 P w K mg base N__law_call_ranks "_law_call_ranks" (defScope s__law_call_ranks) f cdv A outer s H E).nox (defBody s__law_call_ranks) (t__law_call_ranks K) := by
  exact (pss_cons (ps_set (i := 4) sc__law_call_ranks.nd rfl (Or.inr rfl) (pe_lc (own := [("_law_v", 9)]) (g := gName 9) (tt := (tAnd (tTest (tOp rGt (tCB (rLenS K) (tCons (tOp (rIx K) (tOp (rIx K) (tVar 0) (tC (.int 0))) (tVar 9)) tNil)) (tC (.int 0)))) (tAnd (tTest (tOp (rIn K true) (tVar 9) (tVar 2))) (tTest (tOp rLe (tOp (rIx K) (tVar 3) (tVar 9)) (tVar 1)))))) (te := (tVar 9)) rfl sc__law_call_ranks.nd (pi_range1 (by rfl) (T.free (memOf 1 rfl)) (pa_cons (pe_callB call_len_seq (by rfl) (T.free (memOf 0 rfl)) b_len (pa_cons (pv 3) pa_nil)) pa_nil)) (blkOk_by (N := N__law_call_ranks) (sc := defScope s__law_call_ranks) (by decide +kernel)) (fun _ _ _ _ _ => pg_name (i := 9) sc__law_call_ranks.nd rfl (Or.inl rfl)) (fun _ _ _ _ _ => pts_one (PW.pt (pw_and (pt_cmpR op_gt (pe_callB call_len_seq (by rfl) (T.free (memOf 0 rfl)) b_len (pa_cons (pe_ix ix_seq (pe_ix ix_seq (pv 0) pe_int (fun _ _ => rfl)) (pv 9) (fun _ _ => rfl)) pa_nil)) pe_int (nomark _)) (pw_and (pt_cmpR op_notIn_seq (pv 9) (pv 2) (by rfl)) (pw_and1 (pt_cmpR op_le (pe_ix ix_seq (pv 3) (pv 9) (fun _ _ => rfl)) (pv 1) (nomark _))))))) (fun _ _ _ _ _ => (pv 9))))
    (pss_cons (ps_setLc (i := 5) (own := [("_law_part", 10)]) (g := gName 10) (tt := tYes) (te := (tC (.int 0))) rfl sc__law_call_ranks.nd rfl rfl (sw_true rfl rfl rfl (by decide +kernel)) (pi_seq (pv 3)) (blkOk_by (N := N__law_call_ranks) (sc := defScope s__law_call_ranks) (by decide +kernel)) (fun _ _ _ _ _ => pg_name (i := 10) sc__law_call_ranks.nd rfl (Or.inl rfl)) (fun _ _ _ _ _ => pts_nil) (fun _ _ _ _ _ => pe_int))
    (pss_cons (ps_for PassesOwn.never rfl (pi_range1 (by rfl) (T.free (memOf 1 rfl)) (pa_cons (pe_callB call_len_seq (by rfl) (T.free (memOf 0 rfl)) b_len (pa_cons (pv 3) pa_nil)) pa_nil)) (pg_name (i := 6) sc__law_call_ranks.nd rfl (Or.inl rfl)) (pss_cons (ps_set (i := 7) sc__law_call_ranks.nd rfl (Or.inr rfl) (pe_lc (own := [("_law_at", 11)]) (g := gName 11) (tt := tYes) (te := (tOp rAdd (tOp (rIx K) (tVar 3) (tVar 11)) (tCB rInt1 (tCons (tOp (rIn K false) (tVar 11) (tVar 4)) tNil)))) rfl sc__law_call_ranks.nd (pi_range1 (by rfl) (T.free (memOf 1 rfl)) (pa_cons (pe_callB call_len_seq (by rfl) (T.free (memOf 0 rfl)) b_len (pa_cons (pv 3) pa_nil)) pa_nil)) (blkOk_by (N := N__law_call_ranks) (sc := defScope s__law_call_ranks) (by decide +kernel)) (fun _ _ _ _ _ => pg_name (i := 11) sc__law_call_ranks.nd rfl (Or.inl rfl)) (fun _ _ _ _ _ => pts_nil) (fun _ _ _ _ _ => (pe_op op_add (pe_ix ix_seq (pv 3) (pv 11) (fun _ _ => rfl)) (pe_callTy call_int1 (by rfl) (T.free (memOf 4 rfl)) b_int (pa_cons (pe_cmpR op_in_seq (pv 11) (pv 4) (by rfl)) pa_nil))))))
    (pss_cons (ps_set (i := 8) sc__law_call_ranks.nd rfl (Or.inr rfl) (pe_lc (own := [("_law_v", 9)]) (g := gName 9) (tt := (tTest (tOp rLe (tFn (sp__law_price K) (tCons (tVar 0) (tCons (tVar 1) (tCons (tVar 7) (tCons (tVar 9) tNil))))) (tOp (rIx K) (tVar 3) (tVar 9))))) (te := (tVar 9)) rfl sc__law_call_ranks.nd (pi_seq (pv 4)) (blkOk_by (N := N__law_call_ranks) (sc := defScope s__law_call_ranks) (by decide +kernel)) (fun _ _ _ _ _ => pg_name (i := 9) sc__law_call_ranks.nd rfl (Or.inl rfl)) (fun _ _ _ _ _ => pts_one (pt_cmpR op_le (pe_f (ok__law_price T) hr (by decide) (by rfl) (pa_cons (pv 0) (pa_cons (pv 1) (pa_cons (pv 7) (pa_cons (pv 9) pa_nil))))) (pe_ix ix_seq (pv 3) (pv 9) (fun _ _ => rfl)) (nomark _))) (fun _ _ _ _ _ => (pv 9))))
    (pss_cons (ps_for PassesOwn.never rfl (pi_seq (pv 8)) (pg_name (i := 9) sc__law_call_ranks.nd rfl (Or.inl rfl)) (pss_one (ps_asg (pe_op op_add (pv 6) pe_int) (pg_sub (pv 5) (pv 9) set_list))))
    (pss_one (ps_set (i := 4) sc__law_call_ranks.nd rfl (Or.inr rfl) (pe_lc (own := [("_law_v", 9)]) (g := gName 9) (tt := (tTest (tOp (rIn K true) (tVar 9) (tVar 8)))) (te := (tVar 9)) rfl sc__law_call_ranks.nd (pi_seq (pv 4)) (blkOk_by (N := N__law_call_ranks) (sc := defScope s__law_call_ranks) (by decide +kernel)) (fun _ _ _ _ _ => pg_name (i := 9) sc__law_call_ranks.nd rfl (Or.inl rfl)) (fun _ _ _ _ _ => pts_one (pt_cmpR op_notIn_seq (pv 9) (pv 8) (by rfl))) (fun _ _ _ _ _ => (pv 9)))))))))
    (pss_one (ps_ret (pe_lst (pa_cons (pv 5) (pa_cons (pv 4) pa_nil))))))))
theorem ok__law_call_ranks {P : Program} {w : World} {K : Frag} {mg : Str → Option Value} {base : Heap} (T : Txt w K mg) : GF P w K mg base "_law_call_ranks" 3 (sp__law_call_ranks K) := by
  have F := T.def_ (d := xf__law_call_ranks) (memOf 88 rfl) rfl
  refine ⟨fnr_mk (k := 2) F sc__law_call_ranks (fun _ _ _ _ _ _ us hl => match us, hl with | [_, _, _, _], _ => rfl) (fun vs H Q E h => len__law_call_ranks h) (fun cdv A outer s H vs Q E hr h => ⟨t__law_call_ranks K, d__law_call_ranks T hr, pure__law_call_ranks T h⟩), ?_, T.glo (memOf 62 rfl)⟩
  obtain ⟨fd, F⟩ := F
  exact F.kp
theorem spx_law_call_ranks {K : Frag} {H : Hp} {pot lw c r : Addr} {L : Wb} {A : LWA} {k : Int} {C : Int → Bool} {l : List Int} {X : Int → Int} (hw : LawW K H pot lw L A) (hc : CAt K H c (wSrt L) C l) (hr : SqA K H r (rowV L.n X)) (hk : 0 ≤ k) (hk2 : k ≤ 1000) :
    SpX (sp__law_call_ranks K) [.ref lw, .int k, .ref c, .ref r] H (fun y H' => ∃ p p1 z, y = .ref p ∧ H p1 = none ∧ SqL K H' p [.ref p1, z] ∧ H' p1 = some (.lst (rowV L.n (rnk (lvR (wSrt L) X) (l0R (wSrt L) C (k + 1) X) L.n)))) :=
  fun H1 e Q q E => ⟨pot, lw, L, A, k, c, C, l, r, X, rfl, hw.mono e, hc.mono e, hr.mono e, hk, hk2, fun p p1 z H2 np e2 hp hy => q _ H2 e2 ⟨p, p1, z, rfl, fresh_back e np, hp, hy⟩⟩
def sp__law_call_counts (K : Frag) : Sp := fun vs H Q _ => ∃ pot lw L A k c C l r X, vs = [.ref lw, .int k, .ref c, .ref r] ∧ LawW K H pot lw L A ∧ CAt K H c (wSrt L) C l ∧ SqA K H r (rowV L.n X) ∧ 0 ≤ k ∧ k ≤ 1000 ∧ (∀ v : Int, 0 ≤ v → v < L.n → 0 ≤ X v ∧ X v ≤ k + 1) ∧ 
  ∀ p p1 z H', H p1 = none → Ex H H' → SqL K H' p [.ref p1, z] → H' p1 = some (.lst (rowV L.n (rnk (lvC (wSrt L) C (k + 1) X) (l0C (wSrt L) X) L.n))) → Q (.ref p) H'
/-! _law_call_counts -/
abbrev N__law_call_counts : List Str := ["_law_web_here", "_law_k", "_law_calls_here", "_law_row", "_law_left", "_law_counts", "_law_turn", "_law_lessened", "_law_after", "_law_out", "_law_v", "_law_part", "_law_at"]
abbrev s__law_call_counts : Stmt := top 96
theorem sc__law_call_counts : FnScope N__law_call_counts ["_law_web_here", "_law_k", "_law_calls_here", "_law_row"] (defScope s__law_call_counts) := ⟨rfl, rfl, rfl, by decide +kernel, rfl, by decide +kernel, by decide +kernel⟩
def t__law_call_counts (K : Frag) : TS := (tSeq (tAsg (tLc (iRng1 (tCons (tCB (rLenS K) (tCons (tVar 3) tNil)) tNil)) (gName 10) (tAnd (tTest (tOp rGt (tCB (rLenS K) (tCons (tOp (rIx K) (tOp (rIx K) (tVar 0) (tC (.int 0))) (tVar 10)) tNil)) (tC (.int 0)))) (tTest (tOp rGe (tOp (rIx K) (tVar 3) (tVar 10)) (tC (.int 1))))) (tVar 10) [10]) (gName 4))
    (tSeq (tAsg (tLc (iSeq K (tVar 3)) (gName 11) tYes (tC (.int 0)) [11]) (gName 5))
    (tSeq (tFor (iRng1 (tCons (tCB (rLenS K) (tCons (tVar 3) tNil)) tNil)) (gName 6) (tSeq (tAsg (tLc (iRng1 (tCons (tCB (rLenS K) (tCons (tVar 3) tNil)) tNil)) (gName 12) tYes (tOp rSub (tOp (rIx K) (tVar 3) (tVar 12)) (tCB rInt1 (tCons (tOp (rIn K false) (tVar 12) (tVar 4)) tNil))) [12]) (gName 7))
    (tSeq (tAsg (tFn (sp__law_round K) (tCons (tVar 0) (tCons (tVar 1) (tCons (tVar 2) (tCons (tVar 7) tNil))))) (gName 8))
    (tSeq (tAsg (tLc (iSeq K (tVar 4)) (gName 10) (tTest (tOp rGe (tOp (rIx K) (tVar 8) (tVar 10)) (tOp (rIx K) (tVar 3) (tVar 10)))) (tVar 10) [10]) (gName 9))
    (tSeq (tFor (iSeq K (tVar 9)) (gName 10) (tAsg (tOp rAdd (tVar 6) (tC (.int 1))) (gSub (tVar 5) (tVar 10) rSetL)))
    (tAsg (tLc (iSeq K (tVar 4)) (gName 10) (tTest (tOp (rIn K true) (tVar 10) (tVar 9))) (tVar 10) [10]) (gName 4)))))))
    (tRet (tLst (tCons (tVar 5) (tCons (tVar 4) tNil)))))))
section
variable {w : World} {K : Frag} {mg : Str → Option Value} {vs : List V} {H : Hp} {Q : VK} {E : XK}
theorem len__law_call_counts (h : sp__law_call_counts K vs H Q E) : vs.length = 4 := by obtain ⟨pot, lw, L, A, k, c, C, l, r, X, rfl, _⟩ := h; rfl
theorem pure__law_call_counts (T : Txt w K mg) (h : sp__law_call_counts K vs H Q E) : t__law_call_counts K (E1 Q) (start N__law_call_counts vs) H := by
  obtain ⟨pot, lw, L, A, k, c, C, l, r, X, rfl, hw, hc, hr, hk, hk2, hX, q⟩ := h
  have hn := hw.n60
  have ok := wSrt_ok hw.ok
  refine q_asgL (el_lrF (n := L.n) (p := fun v => (wSrt L).mov v && decide (1 ≤ X v)) (ea_cons (ev_lenR (ev_var rfl) hr) ea_nil) (by omega) (fun _ => rfl) (fun v H2 e2 b0 b1' => ?_) (fun _ _ => ev_var rfl)) fun pl H1 nl e1 hpl => ?_
  · exact et_and (et_Lmov (ev_var rfl) (hw.mono e2) (ev_var rfl) b0 b1') fun _ => et_test (ev_I (ev_ixR (ev_var rfl) (ev_var rfl) (hr.mono e2) b0 b1') ev_c)
  have heq : ((ran L.n).filter fun v => (wSrt L).mov v && decide (1 ≤ X v)) = l0C (wSrt L) X := l0C_law (wSrt L) X
  rw [heq] at hpl
  refine q_asgL (el_lcR (g := fun _ => 0) (ea_of (ev_var rfl) (hr.mono e1)) (by omega) (fun _ => rfl) (fun _ _ _ _ _ => ev_c)) fun pk H2 nk e2 hpk => ?_
  have hne : pk ≠ pl := fun z => by rw [z, hpl] at nk; cases nk
  have nk := fresh_back e1 nk
  refine q_forR1 (n := (L.n : Int)) (ea_cons (ev_lenR (ev_var rfl) (hr.mono (e1.trans e2))) ea_nil) ⟨by omega, by omega⟩ (fun t σ' H' => ∃ pl, Ex H H' ∧ pk ≠ pl ∧ H' pk = some (.lst (rowV L.n (rnk (lvC (wSrt L) C (k + 1) X) (l0C (wSrt L) X) t))) ∧ H' pl = some (.lst (intV (lft (lvC (wSrt L) C (k + 1) X) (l0C (wSrt L) X) t))) ∧
    ∃ v6 v7 v8 v9 v10 v11 v12, σ' = [some (.ref lw), some (.int k), some (.ref c), some (.ref r), some (.ref pl), some (.ref pk), v6, v7, v8, v9, v10, v11, v12]) ?_ ?_ ?_
  · intro H3 e3
    exact ⟨pl, e1.trans (e2.trans e3), hne, e3 _ _ hpk, (e2.trans e3) _ _ hpl, _, _, _, _, _, _, _, rfl⟩
  · rintro t σ' H4 ht ⟨pl, e4, hne, g1, g2, v6, v7, v8, v9, v10, v11, v12, rfl⟩
    have hll := Nat.le_trans (lft_slen (lv := lvC (wSrt L) C (k + 1) X) (l0 := l0C (wSrt L) X) t) (l0C_len (wSrt L) X)
    have hlL : (lft (lvC (wSrt L) C (k + 1) X) (l0C (wSrt L) X) t).length ≤ L.n := hll
    have hlin : ∀ v, v ∈ lft (lvC (wSrt L) C (k + 1) X) (l0C (wSrt L) X) t → 0 ≤ v ∧ v < L.n ∧ (wSrt L).mov v = true := fun v hv => by
      have := mem_l0C.mp (lft_anti (Nat.zero_le t) hv)
      exact ⟨this.1, this.2.1, this.2.2.1⟩
    refine q_asgL (el_lrR (n := L.n) (g := dn1 X fun w => (lft (lvC (wSrt L) C (k + 1) X) (l0C (wSrt L) X) t).contains w) (ea_cons (ev_lenR (ev_var rfl) (hr.mono e4)) ea_nil) (by omega) (fun _ => rfl) (fun v H7 e7 h0 h1 =>
      ev_is (ev_I (ev_ixR (ev_var rfl) (ev_var rfl) (hr.mono (e4.trans e7)) h0 h1) (ev_intB (ev_in (ev_var rfl) (ev_var rfl) (.lst (e7 _ _ g2))))) (congrArg V.int (dn1_b1 X (fun w => (lft (lvC (wSrt L) C (k + 1) X) (l0C (wSrt L) X) t).contains w) v)))) fun pz H7 nz e7 hpz => ?_
    have ee7 := e4.trans e7
    have g1 := e7 _ _ g1
    have g2 := e7 _ _ g2
    have hge : ∀ v, v ∈ (lft (lvC (wSrt L) C (k + 1) X) (l0C (wSrt L) X) t) → 1 ≤ X v := fun v hv => (mem_l0C.mp (lft_anti (Nat.zero_le t) hv)).2.2.2
    refine q_asgX (evx_fn (ea_cons (ev_var rfl) (ea_cons (ev_var rfl) (ea_cons (ev_var rfl) (ea_cons (ev_var rfl) ea_nil)))) (spx_law_round (hw.mono ee7) (hc.mono ee7) (.lst hpz) hk hk2 fun v h0 h1 => ?_)) fun y H72 e72 ⟨py, Y, ey, npy, hpy, hY⟩ => ?_
    · have := hX v h0 h1
      unfold dn1
      split
      · rename_i z
        have := hge v (List.contains_iff_mem.mp z)
        omega
      · exact this
    subst ey
    have hrn := rnd_eq hY
    have ee72 := ee7.trans e72
    have g1 := e72 _ _ g1
    have g2 := e72 _ _ g2
    refine q_asgL (el_lcF (l := (lft (lvC (wSrt L) C (k + 1) X) (l0C (wSrt L) X) t)) (p := fun v => lvC (wSrt L) C (k + 1) X (lft (lvC (wSrt L) C (k + 1) X) (l0C (wSrt L) X) t) v) (ea_of (ev_var rfl) (.lst g2)) (by omega) (fun _ => rfl) (fun v H8 e8 hv => ?_) (fun _ _ => ev_var rfl)) fun pw H8 nw e8 hpw => ?_
    · have b := hlin v hv
      refine et_is (et_test (ev_I (ev_ixR (ev_var rfl) (ev_var rfl) (.lst (e8 _ _ hpy)) b.1 b.2.1) (ev_ixR (ev_var rfl) (ev_var rfl) (hr.mono (ee72.trans e8)) b.1 b.2.1))) ?_
      show decide (X v ≤ Y v) = decide (X v ≤ rnd (wSrt L) C (k + 1) _ v)
      rw [hrn v b.1 b.2.1]
    have ee8 := ee72.trans e8
    have hnw : pk ≠ pw := fun z => by rw [← z, g1] at nw; cases nw
    have g1 := e8 _ _ g1
    have g2 := e8 _ _ g2
    refine q_forC (xs := intV ((lft (lvC (wSrt L) C (k + 1) X) (l0C (wSrt L) X) t).filter fun v => lvC (wSrt L) C (k + 1) X (lft (lvC (wSrt L) C (k + 1) X) (l0C (wSrt L) X) t) v)) (ev_var rfl) (fun j σ' H' => (∃ v, σ' = [some (.ref lw), some (.int k), some (.ref c), some (.ref r), some (.ref pl), some (.ref pk), some (.int (t : Int)), some (.ref pz), some (.ref py), some (.ref pw), v, v11, v12]) ∧ Ex H H' ∧ H' pk = some (.lst (rowV L.n (markF (rnk (lvC (wSrt L) C (k + 1) X) (l0C (wSrt L) X) t) (((lft (lvC (wSrt L) C (k + 1) X) (l0C (wSrt L) X) t).filter fun v => lvC (wSrt L) C (k + 1) X (lft (lvC (wSrt L) C (k + 1) X) (l0C (wSrt L) X) t) v).take j) ((t : Int) + 1)))) ∧
      H' pl = some (.lst (intV (lft (lvC (wSrt L) C (k + 1) X) (l0C (wSrt L) X) t))) ∧ H' pw = some (.lst (intV ((lft (lvC (wSrt L) C (k + 1) X) (l0C (wSrt L) X) t).filter fun v => lvC (wSrt L) C (k + 1) X (lft (lvC (wSrt L) C (k + 1) X) (l0C (wSrt L) X) t) v)))) ?_ (fun j σ' H' h => h.2.2.2.2) ?_ ?_
    · intro H10 e10
      refine ⟨⟨_, rfl⟩, ee8.trans e10, ?_, e10 _ _ g2, e10 _ _ hpw⟩
      rw [e10 _ _ g1]
      rfl
    · rintro j x σ' H10 hi ⟨⟨v, rfl⟩, e10, a1, a2, a3⟩
      obtain ⟨n, hn2, rfl⟩ := intV_at hi
      have h1 : n ∈ ((lft (lvC (wSrt L) C (k + 1) X) (l0C (wSrt L) X) t).filter fun v => lvC (wSrt L) C (k + 1) X (lft (lvC (wSrt L) C (k + 1) X) (l0C (wSrt L) X) t) v) := List.mem_of_getElem? hn2
      have b := hlin n (List.mem_filter.mp h1).1
      refine s_setR a1 (ev_I (ev_var rfl) ev_c) (ev_var rfl) (ev_var rfl) b.1 b.2.1 fun H11 e11 => ?_
      refine ⟨⟨_, rfl⟩, Ex.mut (e10.trans e11) nk, ?_, ?_, ?_⟩
      · rw [upd_same, take_more hn2]
        congr 2
        exact rowV_congr fun v _ _ => markF_more v
      · rw [upd_ne hne.symm]
        exact e11 _ _ a2
      · rw [upd_ne hnw.symm]
        exact e11 _ _ a3
    · rintro σ' H10 ⟨⟨v, rfl⟩, e10, a1, a2, a3⟩
      rw [intV_len, List.take_length, rowV_congr fun v _ _ => markF_rnk v] at a1
      refine s_asgL (el_lcF (l := (lft (lvC (wSrt L) C (k + 1) X) (l0C (wSrt L) X) t)) (p := fun v => !((lft (lvC (wSrt L) C (k + 1) X) (l0C (wSrt L) X) t).filter fun v => lvC (wSrt L) C (k + 1) X (lft (lvC (wSrt L) C (k + 1) X) (l0C (wSrt L) X) t) v).contains v) (ea_of (ev_var rfl) (.lst a2)) (by omega) (fun _ => rfl) (fun v H11 e11 hv => et_test (ev_notin (ev_var rfl) (ev_var rfl) (.lst (e11 _ _ a3)))) (fun _ _ => ev_var rfl)) fun pq H11 nq e11 hpq => ?_
      rw [lft_next] at hpq
      have hneq : pk ≠ pq := fun z => by rw [← z, a1] at nq; cases nq
      exact ⟨pq, e10.trans e11, hneq, e11 _ _ a1, hpq, _, _, _, _, _, _, _, by rfl⟩
  · rintro σ' H4 ⟨pl, e4, hne, g1, g2, v6, v7, v8, v9, v10, v11, v12, rfl⟩
    rw [Int.toNat_natCast] at g1
    refine s_retX (EvL.toX (el_lst (vs := [.ref pk, .ref pl]) (ea_cons (ev_var rfl) (ea_cons (ev_var rfl) ea_nil)) (by show 2 ≤ 100000; decide))) fun y H5 e5 ⟨p, ey, hp⟩ => ?_
    subst ey
    exact q p pk _ H5 nk (e4.trans e5) (sq_of hp) (e5 _ _ g1)
end
theorem d__law_call_counts {P : Program} {w : World} {K : Frag} {mg : Str → Option Value} {base : Heap} (T : Txt w K mg) {f : Addr} {cdv : Value} {A : Around} {outer : List Env} {s : Shared} {H : Hp} {E : XK} (hr : Room 3 (A.deeper (envOfC "_law_call_counts" (defScope s__law_call_counts) s.heap.objs.size f cdv))) :
    PSs (cxOf CX0 P w K mg base N__law_call_counts "_law_call_counts" (defScope s__law_call_counts) f cdv A outer s H E).nox (defBody s__law_call_counts) (t__law_call_counts K) := by
  exact (pss_cons (ps_set (i := 4) sc__law_call_counts.nd rfl (Or.inr rfl) (pe_lc (own := [("_law_v", 10)]) (g := gName 10) (tt := (tAnd (tTest (tOp rGt (tCB (rLenS K) (tCons (tOp (rIx K) (tOp (rIx K) (tVar 0) (tC (.int 0))) (tVar 10)) tNil)) (tC (.int 0)))) (tTest (tOp rGe (tOp (rIx K) (tVar 3) (tVar 10)) (tC (.int 1)))))) (te := (tVar 10)) rfl sc__law_call_counts.nd (pi_range1 (by rfl) (T.free (memOf 1 rfl)) (pa_cons (pe_callB call_len_seq (by rfl) (T.free (memOf 0 rfl)) b_len (pa_cons (pv 3) pa_nil)) pa_nil)) (blkOk_by (N := N__law_call_counts) (sc := defScope s__law_call_counts) (by decide +kernel)) (fun _ _ _ _ _ => pg_name (i := 10) sc__law_call_counts.nd rfl (Or.inl rfl)) (fun _ _ _ _ _ => pts_one (PW.pt (pw_and (pt_cmpR op_gt (pe_callB call_len_seq (by rfl) (T.free (memOf 0 rfl)) b_len (pa_cons (pe_ix ix_seq (pe_ix ix_seq (pv 0) pe_int (fun _ _ => rfl)) (pv 10) (fun _ _ => rfl)) pa_nil)) pe_int (nomark _)) (pw_and1 (pt_cmpR op_ge (pe_ix ix_seq (pv 3) (pv 10) (fun _ _ => rfl)) pe_int (nomark _)))))) (fun _ _ _ _ _ => (pv 10))))
    (pss_cons (ps_setLc (i := 5) (own := [("_law_part", 11)]) (g := gName 11) (tt := tYes) (te := (tC (.int 0))) rfl sc__law_call_counts.nd rfl rfl (sw_true rfl rfl rfl (by decide +kernel)) (pi_seq (pv 3)) (blkOk_by (N := N__law_call_counts) (sc := defScope s__law_call_counts) (by decide +kernel)) (fun _ _ _ _ _ => pg_name (i := 11) sc__law_call_counts.nd rfl (Or.inl rfl)) (fun _ _ _ _ _ => pts_nil) (fun _ _ _ _ _ => pe_int))
    (pss_cons (ps_for PassesOwn.never rfl (pi_range1 (by rfl) (T.free (memOf 1 rfl)) (pa_cons (pe_callB call_len_seq (by rfl) (T.free (memOf 0 rfl)) b_len (pa_cons (pv 3) pa_nil)) pa_nil)) (pg_name (i := 6) sc__law_call_counts.nd rfl (Or.inl rfl)) (pss_cons (ps_setLc (i := 7) (own := [("_law_at", 12)]) (g := gName 12) (tt := tYes) (te := (tOp rSub (tOp (rIx K) (tVar 3) (tVar 12)) (tCB rInt1 (tCons (tOp (rIn K false) (tVar 12) (tVar 4)) tNil)))) rfl sc__law_call_counts.nd rfl rfl (sw_true rfl rfl rfl (by decide +kernel)) (pi_range1 (by rfl) (T.free (memOf 1 rfl)) (pa_cons (pe_callB call_len_seq (by rfl) (T.free (memOf 0 rfl)) b_len (pa_cons (pv 3) pa_nil)) pa_nil)) (blkOk_by (N := N__law_call_counts) (sc := defScope s__law_call_counts) (by decide +kernel)) (fun _ _ _ _ _ => pg_name (i := 12) sc__law_call_counts.nd rfl (Or.inl rfl)) (fun _ _ _ _ _ => pts_nil) (fun _ _ _ _ _ => (pe_op op_sub (pe_ix ix_seq (pv 3) (pv 12) (fun _ _ => rfl)) (pe_callTy call_int1 (by rfl) (T.free (memOf 4 rfl)) b_int (pa_cons (pe_cmpR op_in_seq (pv 12) (pv 4) (by rfl)) pa_nil)))))
    (pss_cons (ps_set (i := 8) sc__law_call_counts.nd rfl (Or.inr rfl) (pe_f (ok__law_round T) hr (by decide) (by rfl) (pa_cons (pv 0) (pa_cons (pv 1) (pa_cons (pv 2) (pa_cons (pv 7) pa_nil))))))
    (pss_cons (ps_set (i := 9) sc__law_call_counts.nd rfl (Or.inr rfl) (pe_lc (own := [("_law_v", 10)]) (g := gName 10) (tt := (tTest (tOp rGe (tOp (rIx K) (tVar 8) (tVar 10)) (tOp (rIx K) (tVar 3) (tVar 10))))) (te := (tVar 10)) rfl sc__law_call_counts.nd (pi_seq (pv 4)) (blkOk_by (N := N__law_call_counts) (sc := defScope s__law_call_counts) (by decide +kernel)) (fun _ _ _ _ _ => pg_name (i := 10) sc__law_call_counts.nd rfl (Or.inl rfl)) (fun _ _ _ _ _ => pts_one (pt_cmpR op_ge (pe_ix ix_seq (pv 8) (pv 10) (fun _ _ => rfl)) (pe_ix ix_seq (pv 3) (pv 10) (fun _ _ => rfl)) (nomark _))) (fun _ _ _ _ _ => (pv 10))))
    (pss_cons (ps_for PassesOwn.never rfl (pi_seq (pv 9)) (pg_name (i := 10) sc__law_call_counts.nd rfl (Or.inl rfl)) (pss_one (ps_asg (pe_op op_add (pv 6) pe_int) (pg_sub (pv 5) (pv 10) set_list))))
    (pss_one (ps_set (i := 4) sc__law_call_counts.nd rfl (Or.inr rfl) (pe_lc (own := [("_law_v", 10)]) (g := gName 10) (tt := (tTest (tOp (rIn K true) (tVar 10) (tVar 9)))) (te := (tVar 10)) rfl sc__law_call_counts.nd (pi_seq (pv 4)) (blkOk_by (N := N__law_call_counts) (sc := defScope s__law_call_counts) (by decide +kernel)) (fun _ _ _ _ _ => pg_name (i := 10) sc__law_call_counts.nd rfl (Or.inl rfl)) (fun _ _ _ _ _ => pts_one (pt_cmpR op_notIn_seq (pv 10) (pv 9) (by rfl))) (fun _ _ _ _ _ => (pv 10))))))))))
    (pss_one (ps_ret (pe_lst (pa_cons (pv 5) (pa_cons (pv 4) pa_nil))))))))
theorem ok__law_call_counts {P : Program} {w : World} {K : Frag} {mg : Str → Option Value} {base : Heap} (T : Txt w K mg) : GF P w K mg base "_law_call_counts" 4 (sp__law_call_counts K) := by
  have F := T.def_ (d := xf__law_call_counts) (memOf 89 rfl) rfl
  refine ⟨fnr_mk (k := 3) F sc__law_call_counts (fun _ _ _ _ _ _ us hl => match us, hl with | [_, _, _, _], _ => rfl) (fun vs H Q E h => len__law_call_counts h) (fun cdv A outer s H vs Q E hr h => ⟨t__law_call_counts K, d__law_call_counts T hr, pure__law_call_counts T h⟩), ?_, T.glo (memOf 63 rfl)⟩
  obtain ⟨fd, F⟩ := F
  exact F.kp
theorem spx_law_call_counts {K : Frag} {H : Hp} {pot lw c r : Addr} {L : Wb} {A : LWA} {k : Int} {C : Int → Bool} {l : List Int} {X : Int → Int} (hw : LawW K H pot lw L A) (hc : CAt K H c (wSrt L) C l) (hr : SqA K H r (rowV L.n X)) (hk : 0 ≤ k) (hk2 : k ≤ 1000) (hX : ∀ v : Int, 0 ≤ v → v < L.n → 0 ≤ X v ∧ X v ≤ k + 1) :
    SpX (sp__law_call_counts K) [.ref lw, .int k, .ref c, .ref r] H (fun y H' => ∃ p p1 z, y = .ref p ∧ H p1 = none ∧ SqL K H' p [.ref p1, z] ∧ H' p1 = some (.lst (rowV L.n (rnk (lvC (wSrt L) C (k + 1) X) (l0C (wSrt L) X) L.n)))) :=
  fun H1 e Q q E => ⟨pot, lw, L, A, k, c, C, l, r, X, rfl, hw.mono e, hc.mono e, hr.mono e, hk, hk2, hX, fun p p1 z H2 np e2 hp hy => q _ H2 e2 ⟨p, p1, z, rfl, fresh_back e np, hp, hy⟩⟩
end Pw
end

section
set_option maxRecDepth 100000
set_option maxHeartbeats 4000000
/-! The law's plans, its duel, its look at all states. -/
namespace Pw
open PySem PySem.Spec L2 Evl StX PwS SlX
open PyProof.Rows hiding St
theorem b1_m1 (L : Wb) (v : Int) : b1 (decide (L.mark v = 1)) = m1 (wSrt L) v := by
  unfold b1 m1
  by_cases e : L.mark v = 1
  · rw [if_pos (decide_eq_true e)]
    exact (if_pos (show (wSrt L).mark v = 1 from e)).symm
  · rw [if_neg (by simpa using e)]
    exact (if_neg (show ¬ (wSrt L).mark v = 1 from e)).symm
def sp__law_told_bid (K : Frag) : Sp := fun vs H Q _ => ∃ pot lw L A r f v b side, vs = [.ref lw, .ref r, .int v, .int b, .int side] ∧ LawW K H pot lw L A ∧ SqA K H r (rowV L.n f) ∧ 0 ≤ v ∧ v < L.n ∧ (wSrt L).mov v = true ∧
  ∀ p H', Ex H H' → SqL K H' p [.int (if side = 2 then toldB2 (wSrt L) f v b else toldB1 (wSrt L) f v b), .int (if side = 2 then toldS2 (wSrt L) f v else toldS1 (wSrt L) f v)] → Q (.ref p) H'
/-! _law_told_bid -/
abbrev N__law_told_bid : List Str := ["_law_web_here", "_law_row", "_law_stand", "_law_purse", "_law_side", "_law_low_here", "_law_high_here", "_law_bid", "_law_steps", "_law_step"]
abbrev s__law_told_bid : Stmt := top 97
theorem sc__law_told_bid : FnScope N__law_told_bid ["_law_web_here", "_law_row", "_law_stand", "_law_purse", "_law_side"] (defScope s__law_told_bid) := ⟨rfl, rfl, rfl, by decide +kernel, rfl, by decide +kernel, by decide +kernel⟩
def t__law_told_bid (K : Frag) : TS := (tSeq (tAsg (tFn (sp__law_low K) (tCons (tVar 0) (tCons (tVar 1) (tCons (tVar 2) tNil)))) (gName 5))
    (tSeq (tAsg (tFn (sp__law_high K) (tCons (tVar 0) (tCons (tVar 1) (tCons (tVar 2) tNil)))) (gName 6))
    (tSeq (tAsg (tOp rSub (tOp rSub (tVar 6) (tVar 3)) (tCB rInt1 (tCons (tOp rEq (tOp (rIx K) (tOp (rIx K) (tVar 0) (tC (.int 2))) (tVar 2)) (tC (.int 1))) tNil))) (gName 7))
    (tSeq (tAsg (tLc (iSeq K (tOp (rIx K) (tOp (rIx K) (tVar 0) (tC (.int 0))) (tVar 2))) (gName 9) (tTest (tOp rEq (tOp (rIx K) (tVar 1) (tVar 9)) (tVar 5))) (tVar 9) [9]) (gName 8))
    (tSeq (tIfS (tTest (tOp rEq (tVar 4) (tC (.int 2)))) (tSeq (tAsg (tOp rAdd (tOp rSub (tVar 3) (tVar 5)) (tCB rInt1 (tCons (tOp rEq (tOp (rIx K) (tOp (rIx K) (tVar 0) (tC (.int 2))) (tVar 2)) (tC (.int 1))) tNil))) (gName 7))
    (tAsg (tLc (iSeq K (tOp (rIx K) (tOp (rIx K) (tVar 0) (tC (.int 1))) (tVar 2))) (gName 9) (tTest (tOp rEq (tOp (rIx K) (tVar 1) (tVar 9)) (tVar 6))) (tVar 9) [9]) (gName 8))) tNext)
    (tRet (tLst (tCons (tCB rMax2' (tCons (tC (.int 0)) (tCons (tVar 7) tNil))) (tCons (tCB (rMin K) (tCons (tVar 8) tNil)) tNil)))))))))
section
variable {w : World} {K : Frag} {mg : Str → Option Value} {vs : List V} {H : Hp} {Q : VK} {E : XK}
theorem len__law_told_bid (h : sp__law_told_bid K vs H Q E) : vs.length = 5 := by obtain ⟨pot, lw, L, A, r, f, v, b, side, rfl, _⟩ := h; rfl
theorem pure__law_told_bid (T : Txt w K mg) (h : sp__law_told_bid K vs H Q E) : t__law_told_bid K (E1 Q) (start N__law_told_bid vs) H := by
  obtain ⟨pot, lw, L, A, r, f, v, b, side, rfl, hw, hr, h0, h1, hm, k⟩ := h
  have ok := wSrt_ok hw.ok
  refine q_asg (ev_fn (ea_cons (ev_var rfl) (ea_cons (ev_var rfl) (ea_cons (ev_var rfl) ea_nil))) (spv_law_low hw hr h0 h1 hm)) fun H1 e1 => ?_
  refine q_asg (ev_fn (ea_cons (ev_var rfl) (ea_cons (ev_var rfl) (ea_cons (ev_var rfl) ea_nil))) (spv_law_high (hw.mono e1) (hr.mono e1) h0 h1 hm)) fun H2 e2 => ?_
  have hw2 := hw.mono (e1.trans e2)
  have hr2 := hr.mono (e1.trans e2)
  refine q_asg (v := .int (hi (wSrt L) f v - b - m1 (wSrt L) v)) (ev_is (ev_I (ev_I (ev_var rfl) (ev_var rfl)) (ev_intB (ev_eqI (ev_LM (ev_var rfl) hw2 (ev_var rfl) h0 h1) ev_c))) (by rw [b1_m1])) fun H3 e3 => ?_
  have hw3 := hw2.mono e3
  have hr3 := hr2.mono e3
  refine q_asgL (el_lcF (p := fun w => decide (f w = lo (wSrt L) f v)) (ea_of (ev_LF (ev_var rfl) hw3 (ev_var rfl) h0 h1) (.l (hw3.ff v h0 h1).1.2)) (by have := (hw.ff v h0 h1).2; omega) (fun _ => rfl) (fun x H4 e4 hx => ?_) (fun _ _ => ev_var rfl)) fun ps H4 ns e4 hps => ?_
  · have hb := hw.ok.fr v x h0 h1 hx
    exact et_test (ev_eqI (ev_ixR (ev_var rfl) (ev_var rfl) (hr3.mono e4) hb.1 hb.2) (ev_var rfl))
  have hw4 := hw3.mono e4
  have hr4 := hr3.mono e4
  have e04 := (e1.trans e2).trans (e3.trans e4)
  have fin : ∀ (H5 : Hp) (bid : Int) (st : List Int) (ps : Addr), Ex H4 H5 → H5 ps = some (.lst (intV st)) → st ≠ [] → max 0 bid = (if side = 2 then toldB2 (wSrt L) f v b else toldB1 (wSrt L) f v b) → minOf st = (if side = 2 then toldS2 (wSrt L) f v else toldS1 (wSrt L) f v) →
      tRet (tLst (tCons (tCB rMax2' (tCons (tC (.int 0)) (tCons (tVar 7) tNil))) (tCons (tCB (rMin K) (tCons (tVar 8) tNil)) tNil))) (E1 Q) [some (.ref lw), some (.ref r), some (.int v), some (.int b), some (.int side), some (.int (lo (wSrt L) f v)), some (.int (hi (wSrt L) f v)), some (.int bid), some (.ref ps), none] H5 := fun H5 bid st ps e5 hps hne hb hs => by
    refine s_retX (EvL.toX (el_lst (vs := [.int (max 0 bid), .int (minOf st)]) (ea_cons (ev_mx ev_c (ev_var rfl)) (ea_cons (ev_minS (ev_var rfl) (sq_of hps) hne) ea_nil)) (by show 2 ≤ 100000; decide))) fun y H6 e6 ⟨p, ey, hp⟩ => ?_
    subst ey
    rw [hb, hs] at hp
    exact k p H6 (e04.trans (e5.trans e6)) (sq_of hp)
  refine q_when (et_test (ev_eqI (ev_var rfl) ev_c)) (fun hb H5 e5 => ?_) fun hb H5 e5 => ?_
  · have h2 := of_decide_eq_true hb
    have hw5 := hw4.mono e5
    have hr5 := hr4.mono e5
    refine q_asg (v := .int (b - lo (wSrt L) f v + m1 (wSrt L) v)) (ev_is (ev_I (ev_I (ev_var rfl) (ev_var rfl)) (ev_intB (ev_eqI (ev_LM (ev_var rfl) hw5 (ev_var rfl) h0 h1) ev_c))) (by rw [b1_m1])) fun H6 e6 => ?_
    have hw6 := hw5.mono e6
    have hr6 := hr5.mono e6
    refine s_asgL (el_lcF (p := fun w => decide (f w = hi (wSrt L) f v)) (ea_of (ev_LS (ev_var rfl) hw6 (ev_var rfl) h0 h1) (.l (hw6.fs v h0 h1).1.2)) (by have := (hw.fs v h0 h1).2; omega) (fun _ => rfl) (fun x H7 e7 hx => ?_) (fun _ _ => ev_var rfl)) fun pt H7 nt e7 hpt => ?_
    · have hb := hw.ok.sr v x h0 h1 hx
      exact et_test (ev_eqI (ev_ixR (ev_var rfl) (ev_var rfl) (hr6.mono e7) hb.1 hb.2) (ev_var rfl))
    refine fin H7 _ _ pt (e5.trans (e6.trans e7)) hpt ?_ ?_ ?_
    · obtain ⟨w', hw', e'⟩ := hi_mem ok h0 h1 hm f
      exact pick_ne ⟨w', (mem_sS hw.ok h0 h1).mp hw', decide_eq_true e'⟩
    · rw [if_pos h2]; rfl
    · rw [if_pos h2, pickS_srt hw.ok h0 h1]; rfl
  · have h2 := of_decide_eq_false hb
    refine fin H5 _ _ ps e5 (e5 _ _ hps) ?_ ?_ ?_
    · obtain ⟨w', hw', e'⟩ := lo_mem ok hm f
      exact pick_ne ⟨w', (mem_sF hw.ok h0 h1).mp hw', decide_eq_true e'⟩
    · rw [if_neg h2]; rfl
    · rw [if_neg h2, pickF_srt hw.ok h0 h1]; rfl
end
theorem d__law_told_bid {P : Program} {w : World} {K : Frag} {mg : Str → Option Value} {base : Heap} (T : Txt w K mg) {f : Addr} {cdv : Value} {A : Around} {outer : List Env} {s : Shared} {H : Hp} {E : XK} (hr : Room 1 (A.deeper (envOfC "_law_told_bid" (defScope s__law_told_bid) s.heap.objs.size f cdv))) :
    PSs (cxOf CX0 P w K mg base N__law_told_bid "_law_told_bid" (defScope s__law_told_bid) f cdv A outer s H E).nox (defBody s__law_told_bid) (t__law_told_bid K) := by
  exact (pss_cons (ps_set (i := 5) sc__law_told_bid.nd rfl (Or.inr rfl) (pe_f (ok__law_low T) hr (by decide) (by rfl) (pa_cons (pv 0) (pa_cons (pv 1) (pa_cons (pv 2) pa_nil)))))
    (pss_cons (ps_set (i := 6) sc__law_told_bid.nd rfl (Or.inr rfl) (pe_f (ok__law_high T) hr (by decide) (by rfl) (pa_cons (pv 0) (pa_cons (pv 1) (pa_cons (pv 2) pa_nil)))))
    (pss_cons (ps_set (i := 7) sc__law_told_bid.nd rfl (Or.inl rfl) (pe_op op_sub (pe_op op_sub (pv 6) (pv 3)) (pe_callTy call_int1 (by rfl) (T.free (memOf 4 rfl)) b_int (pa_cons (pe_cmpR op_eq (pe_ix ix_seq (pe_ix ix_seq (pv 0) pe_int (fun _ _ => rfl)) (pv 2) (fun _ _ => rfl)) pe_int (nomark _)) pa_nil))))
    (pss_cons (ps_setLc (i := 8) (own := [("_law_step", 9)]) (g := gName 9) (tt := (tTest (tOp rEq (tOp (rIx K) (tVar 1) (tVar 9)) (tVar 5)))) (te := (tVar 9)) rfl sc__law_told_bid.nd rfl rfl (sw_true rfl rfl rfl (by decide +kernel)) (pi_seq (pe_ix ix_seq (pe_ix ix_seq (pv 0) pe_int (fun _ _ => rfl)) (pv 2) (fun _ _ => rfl))) (blkOk_by (N := N__law_told_bid) (sc := defScope s__law_told_bid) (by decide +kernel)) (fun _ _ _ _ _ => pg_name (i := 9) sc__law_told_bid.nd rfl (Or.inl rfl)) (fun _ _ _ _ _ => pts_one (pt_cmpR op_eq (pe_ix ix_seq (pv 1) (pv 9) (fun _ _ => rfl)) (pv 5) (nomark _))) (fun _ _ _ _ _ => (pv 9)))
    (pss_cons (ps_if (pt_cmpR op_eq (pv 4) pe_int (nomark _)) (pss_cons (ps_set (i := 7) sc__law_told_bid.nd rfl (Or.inl rfl) (pe_op op_add (pe_op op_sub (pv 3) (pv 5)) (pe_callTy call_int1 (by rfl) (T.free (memOf 4 rfl)) b_int (pa_cons (pe_cmpR op_eq (pe_ix ix_seq (pe_ix ix_seq (pv 0) pe_int (fun _ _ => rfl)) (pv 2) (fun _ _ => rfl)) pe_int (nomark _)) pa_nil))))
    (pss_one (ps_setLc (i := 8) (own := [("_law_step", 9)]) (g := gName 9) (tt := (tTest (tOp rEq (tOp (rIx K) (tVar 1) (tVar 9)) (tVar 6)))) (te := (tVar 9)) rfl sc__law_told_bid.nd rfl rfl (sw_true rfl rfl rfl (by decide +kernel)) (pi_seq (pe_ix ix_seq (pe_ix ix_seq (pv 0) pe_int (fun _ _ => rfl)) (pv 2) (fun _ _ => rfl))) (blkOk_by (N := N__law_told_bid) (sc := defScope s__law_told_bid) (by decide +kernel)) (fun _ _ _ _ _ => pg_name (i := 9) sc__law_told_bid.nd rfl (Or.inl rfl)) (fun _ _ _ _ _ => pts_one (pt_cmpR op_eq (pe_ix ix_seq (pv 1) (pv 9) (fun _ _ => rfl)) (pv 6) (nomark _))) (fun _ _ _ _ _ => (pv 9))))) pss_nil)
    (pss_one (ps_ret (pe_lst (pa_cons (pe_callB (call_max2 rfl) (by rfl) (T.free (memOf 3 rfl)) b_max (pa_cons pe_int (pa_cons (pv 7) pa_nil))) (pa_cons (pe_callB (cr_min rfl) (by rfl) (T.free (memOf 2 rfl)) b_min (pa_cons (pv 8) pa_nil)) pa_nil))))))))))
theorem ok__law_told_bid {P : Program} {w : World} {K : Frag} {mg : Str → Option Value} {base : Heap} (T : Txt w K mg) : GF P w K mg base "_law_told_bid" 2 (sp__law_told_bid K) := by
  have F := T.def_ (d := xf__law_told_bid) (memOf 90 rfl) rfl
  refine ⟨fnr_mk (k := 1) F sc__law_told_bid (fun _ _ _ _ _ _ us hl => match us, hl with | [_, _, _, _, _], _ => rfl) (fun vs H Q E h => len__law_told_bid h) (fun cdv A outer s H vs Q E hr h => ⟨t__law_told_bid K, d__law_told_bid T hr, pure__law_told_bid T h⟩), ?_, T.glo (memOf 64 rfl)⟩
  obtain ⟨fd, F⟩ := F
  exact F.kp
theorem spx_law_told_bid {K : Frag} {H : Hp} {pot lw r : Addr} {L : Wb} {A : LWA} {f : Int → Int} {v b side : Int} (hw : LawW K H pot lw L A) (hr : SqA K H r (rowV L.n f)) (h0 : 0 ≤ v) (h1 : v < L.n) (hm : (wSrt L).mov v = true) :
    SpX (sp__law_told_bid K) [.ref lw, .ref r, .int v, .int b, .int side] H (fun y H' => ∃ p, y = .ref p ∧ SqL K H' p [.int (if side = 2 then toldB2 (wSrt L) f v b else toldB1 (wSrt L) f v b), .int (if side = 2 then toldS2 (wSrt L) f v else toldS1 (wSrt L) f v)]) :=
  fun H1 e Q q E => ⟨pot, lw, L, A, r, f, v, b, side, rfl, hw.mono e, hr.mono e, h0, h1, hm, fun p H2 e2 hp => q _ H2 e2 ⟨p, rfl, hp⟩⟩
/-- the law's parts -/
structure LParts (K : Frag) (H : Hp) (pot pp r q1 q2 : Addr) (n : Nat) (X rk ct : Int → Int) : Prop where
  h : LL K pot H pp [.ref r, .ref q1, .ref q2]
  hr : LL K pot H r (rowV n X)
  h1 : LL K pot H q1 (rowV n rk)
  h2 : LL K pot H q2 (rowV n ct)
theorem LParts.mono {K : Frag} {H H' : Hp} {pot pp r q1 q2 : Addr} {n : Nat} {X rk ct : Int → Int} (e : Ex H H') (h : LParts K H pot pp r q1 q2 n X rk ct) : LParts K H' pot pp r q1 q2 n X rk ct := ⟨h.h.mono e, h.hr.mono e, h.h1.mono e, h.h2.mono e⟩
theorem LParts.exp {K : Frag} {H H' : Hp} {pot pp r q1 q2 : Addr} {n : Nat} {X rk ct : Int → Int} (e : ExP pot H H') (h : LParts K H pot pp r q1 q2 n X rk ct) : LParts K H' pot pp r q1 q2 n X rk ct := ⟨h.h.exp e, h.hr.exp e, h.h1.exp e, h.h2.exp e⟩
def sp__law_first (K : Frag) : Sp := fun vs H Q _ => ∃ pot lw L A c C l pp r q1 q2 X rk ct v a, vs = [.ref lw, .ref c, .ref pp, .int v, .int a] ∧ LawW K H pot lw L A ∧ CAt K H c (wSrt L) C l ∧ LParts K H pot pp r q1 q2 L.n X rk ct ∧ 0 ≤ v ∧ v < L.n ∧ (wSrt L).mov v = true ∧ RetP K (fBid (wSrt L) C X rk v a) (fStep (wSrt L) C X rk v a) H Q
/-! _law_first -/
abbrev N__law_first : List Str := ["_law_web_here", "_law_calls_here", "_law_parts", "_law_stand", "_law_purse", "_law_row", "_law_ranks", "_law_spare", "_law_rank", "_law_told", "_law_raised", "_law_least", "_law_lowest", "_law_below", "_law_part", "_law_at", "_law_step"]
abbrev s__law_first : Stmt := top 98
theorem sc__law_first : FnScope N__law_first ["_law_web_here", "_law_calls_here", "_law_parts", "_law_stand", "_law_purse"] (defScope s__law_first) := ⟨rfl, rfl, rfl, by decide +kernel, rfl, by decide +kernel, by decide +kernel⟩
def t__law_first (K : Frag) : TS := (tSeq (tAsg (tOp (rIx K) (tVar 2) (tC (.int 0))) (gName 5))
    (tSeq (tAsg (tOp (rIx K) (tVar 2) (tC (.int 1))) (gName 6))
    (tSeq (tAsg (tOp rSub (tVar 4) (tOp (rIx K) (tVar 5) (tVar 3))) (gName 7))
    (tSeq (tAsg (tOp (rIx K) (tVar 6) (tVar 3)) (gName 8))
    (tSeq (tIfS (tOr (tTest (tOp rLt (tVar 7) (tC (.int 0)))) (tAnd (tTest (tOp rEq (tVar 8) (tC (.int 0)))) (tTest (tOp (rIn K true) (tVar 3) (tVar 1))))) (tRet (tTup (tCons (tC (.int 0)) (tCons (tCB (rMin K) (tCons (tOp (rIx K) (tOp (rIx K) (tVar 0) (tC (.int 0))) (tVar 3)) tNil)) tNil)))) tNext)
    (tSeq (tIfS (tTest (tOp (rIn K false) (tVar 3) (tVar 1))) (tSeq (tAsg (tFn (sp__law_told_bid K) (tCons (tVar 0) (tCons (tLc (iSeq K (tVar 5)) (gName 14) tYes (tOp rAdd (tVar 14) (tVar 7)) [14]) (tCons (tVar 3) (tCons (tVar 4) (tCons (tC (.int 1)) tNil)))))) (gName 9))
    (tRet (tTup (tCons (tCB rMin2' (tCons (tOp (rIx K) (tVar 9) (tC (.int 0))) (tCons (tVar 4) tNil))) (tCons (tOp (rIx K) (tVar 9) (tC (.int 1))) tNil))))) tNext)
    (tSeq (tAsg (tLc (iRng1 (tCons (tCB (rLenS K) (tCons (tVar 5) tNil)) tNil)) (gName 15) tYes (tOp rAdd (tOp rAdd (tOp (rIx K) (tVar 5) (tVar 15)) (tVar 7)) (tCB rInt1 (tCons (tOp rGe (tOp (rIx K) (tVar 6) (tVar 15)) (tVar 8)) tNil))) [15]) (gName 10))
    (tSeq (tAsg (tFn (sp__law_low K) (tCons (tVar 0) (tCons (tVar 5) (tCons (tVar 3) tNil)))) (gName 11))
    (tSeq (tAsg (tLc (iSeq K (tOp (rIx K) (tOp (rIx K) (tVar 0) (tC (.int 0))) (tVar 3))) (gName 16) (tTest (tOp rEq (tOp (rIx K) (tVar 5) (tVar 16)) (tVar 11))) (tVar 16) [16]) (gName 12))
    (tSeq (tAsg (tLc (iSeq K (tVar 12)) (gName 16) (tTest (tOp rLt (tOp (rIx K) (tVar 6) (tVar 16)) (tVar 8))) (tVar 16) [16]) (gName 13))
    (tSeq (tIfS (tTest (tOp rEq (tCB (rLenS K) (tCons (tVar 13) tNil)) (tC (.int 0)))) (tAsg (tVar 12) (gName 13)) tNext)
    (tRet (tTup (tCons (tCB rMin2' (tCons (tOp (rIx K) (tFn (sp__law_told_bid K) (tCons (tVar 0) (tCons (tVar 10) (tCons (tVar 3) (tCons (tVar 4) (tCons (tC (.int 1)) tNil)))))) (tC (.int 0))) (tCons (tVar 4) tNil))) (tCons (tCB (rMin K) (tCons (tVar 13) tNil)) tNil)))))))))))))))
section
variable {w : World} {K : Frag} {mg : Str → Option Value} {vs : List V} {H : Hp} {Q : VK} {E : XK}
theorem len__law_first (h : sp__law_first K vs H Q E) : vs.length = 5 := by obtain ⟨pot, lw, L, A, c, C, l, pp, r, q1, q2, X, rk, ct, v, a, rfl, _⟩ := h; rfl
theorem pure__law_first (T : Txt w K mg) (h : sp__law_first K vs H Q E) : t__law_first K (E1 Q) (start N__law_first vs) H := by
  obtain ⟨pot, lw, L, A, c, C, l, pp, r, q1, q2, X, rk, ct, v, a, rfl, hw, hc, hp, h0, h1, hm, kk⟩ := h
  have ok := wSrt_ok hw.ok
  have hn := hw.n60
  refine q_asg (v := .ref r) (ev_ix (ev_var rfl) ev_c (.l hp.h.2) rfl) fun H1 e1 => ?_
  refine q_asg (v := .ref q1) (ev_ix (ev_var rfl) ev_c (.l (hp.mono e1).h.2) rfl) fun H2 e2 => ?_
  have e02 := e1.trans e2
  refine q_asg (ev_I (ev_var rfl) (ev_ixR (ev_var rfl) (ev_var rfl) (.l (hp.mono e02).hr.2) h0 h1)) fun H3 e3 => ?_
  refine q_asg (ev_ixR (ev_var rfl) (ev_var rfl) (.l (hp.mono (e02.trans e3)).h1.2) h0 h1) fun H4 e4 => ?_
  have e04 := e02.trans (e3.trans e4)
  have hw4 := hw.mono e04
  have hp4 := hp.mono e04
  have hc4 := hc.mono e04
  refine q_when (et_or (et_test (ev_I (ev_var rfl) ev_c)) fun _ => et_and (et_test (ev_eqI (ev_var rfl) ev_c)) fun _ => et_test (ev_ninC (ev_var rfl) (ev_var rfl) hc4)) (fun hb H5 e5 => ?_) fun hb H5 e5 => ?_
  · have hid : fIdle C X rk v a := by unfold fIdle; simpa using hb
    have hw5 := hw4.mono e5
    have hne : L.F v ≠ [] := mov_ne (by rw [← wSrt_mov hw.ok h0 h1]; exact hm)
    have hmn : minOf (L.F v) = minOf ((wSrt L).F v) := minOf_congr fun x => (mem_sF hw.ok h0 h1).symm
    refine s_retX (EvU.toX (eu_tup (vs := [.int 0, .int (minOf (L.F v))]) (ea_cons ev_c (ea_cons (ev_minS (ev_LF (ev_var rfl) hw5 (ev_var rfl) h0 h1) (hw5.ff v h0 h1).1.2 hne) ea_nil)) (by show 2 ≤ 100000; decide))) fun y H6 e6 ⟨pt, ey, hpt⟩ => ?_
    subst ey
    refine kk pt H6 (e04.trans (e5.trans e6)) ?_
    unfold fBid fStep
    rw [if_pos hid, if_pos hid, ← hmn]
    exact st_of hpt
  · have hid : ¬ fIdle C X rk v a := by
      unfold fIdle
      intro z
      have : (decide (a - X v < 0) || decide (rk v = 0) && !C v) = true := by simpa using z
      rw [this] at hb
      cases hb
    have hw5 := hw4.mono e5
    have hp5 := hp4.mono e5
    refine q_when (et_test (ev_inC (ev_var rfl) (ev_var rfl) (hc4.mono e5))) (fun hcb H6 e6 => ?_) fun hcb H6 e6 => ?_
    · have hw6 := hw5.mono e6
      have hp6 := hp5.mono e6
      refine q_asgX (P := fun y H' => ∃ p, y = .ref p ∧ SqL K H' p [.int (toldB1 (wSrt L) (fun w => X w + (a - X v)) v a), .int (toldS1 (wSrt L) (fun w => X w + (a - X v)) v)]) (evx_fnX (ea_1 (ev_var rfl) (ea_X (K := K) (PA := fun _ _ => True) (el_lcR (g := fun w => X w + (a - X v)) (ea_of (ev_var rfl) (.l hp6.hr.2)) (by omega) (fun _ => rfl) (fun w H9 e9 _ _ => ev_I (ev_var rfl) (ev_var rfl))) fun H9 e9 => ea_cons (ev_var rfl) (ea_cons (ev_var rfl) (ea_cons ev_c ea_nil))))
        fun vs H9 e9 ⟨us, ev, p9, eu, hp9⟩ => ?_) fun y H7 e7 ⟨pt, ey, hpt⟩ => ?_
      · subst ev
        subst eu
        exact spx_law_told_bid (side := 1) (hw6.mono e9) (.l hp9) h0 h1 hm
      · subst ey
        refine s_retX (EvU.toX (eu_tup (vs := [.int (min (toldB1 (wSrt L) (fun w => X w + (a - X v)) v a) a), .int (toldS1 (wSrt L) (fun w => X w + (a - X v)) v)]) (ea_cons (ev_mn (ev_ix (ev_var rfl) ev_c (.l hpt) rfl) (ev_var rfl)) (ea_cons (ev_ix (ev_var rfl) ev_c (.l hpt) rfl) ea_nil)) (by show 2 ≤ 100000; decide))) fun y H8 e8 ⟨pu, ey, hpu⟩ => ?_
        subst ey
        refine kk pu H8 (e04.trans (e5.trans (e6.trans (e7.trans e8)))) ?_
        unfold fBid fStep
        rw [if_neg hid, if_neg hid, if_pos hcb, if_pos hcb]
        exact st_of hpu
    · have hw6 := hw5.mono e6
      have hp6 := hp5.mono e6
      have eqR : ∀ w, X w + (a - X v) + b1 (decide (rk v ≤ rk w)) = rFst X rk v w + (a - X v) := fun w => by
        unfold b1 rFst up1
        split <;> omega
      refine q_asgL (el_lrR (n := L.n) (g := fun w => rFst X rk v w + (a - X v)) (ea_cons (ev_lenR (ev_var rfl) (.l hp6.hr.2)) ea_nil) (by omega) (fun _ => rfl) (fun w H7 e7 g0 g1 => ev_is (ev_I (ev_I (ev_ixR (ev_var rfl) (ev_var rfl) (.l (hp6.mono e7).hr.2) g0 g1) (ev_var rfl)) (ev_intB (ev_I (ev_ixR (ev_var rfl) (ev_var rfl) (.l (hp6.mono e7).h1.2) g0 g1) (ev_var rfl)))) (congrArg V.int (eqR w)))) fun pz H7 nz e7 hpz => ?_
      have hw7 := hw6.mono e7
      have hp7 := hp6.mono e7
      refine q_asg (ev_fn (ea_cons (ev_var rfl) (ea_cons (ev_var rfl) (ea_cons (ev_var rfl) ea_nil))) (spv_law_low hw7 (.l hp7.hr.2) h0 h1 hm)) fun H8 e8 => ?_
      have hw8 := hw7.mono e8
      have hp8 := hp7.mono e8
      refine q_asgL (el_lcF (p := fun w => decide (X w = lo (wSrt L) X v)) (ea_of (ev_LF (ev_var rfl) hw8 (ev_var rfl) h0 h1) (.l (hw8.ff v h0 h1).1.2)) (by have := (hw.ff v h0 h1).2; omega) (fun _ => rfl) (fun x H9 e9 hx => ?_) (fun _ _ => ev_var rfl)) fun pl H9 nl e9 hpl => ?_
      · have hb := hw.ok.fr v x h0 h1 hx
        exact et_test (ev_eqI (ev_ixR (ev_var rfl) (ev_var rfl) (.l (hp8.mono e9).hr.2) hb.1 hb.2) (ev_var rfl))
      have hp9 := hp8.mono e9
      have hlf := filter_len (f := fun w => decide (X w = lo (wSrt L) X v)) (hw.ff v h0 h1).2
      refine q_asgL (el_lcF (p := fun w => decide (rk w < rk v)) (ea_of (ev_var rfl) (.lst hpl)) (by omega) (fun _ => rfl) (fun x H10 e10 hx => ?_) (fun _ _ => ev_var rfl)) fun pb H10 nb e10 hpb => ?_
      · have hb := hw.ok.fr v x h0 h1 (List.mem_filter.mp hx).1
        exact et_test (ev_I (ev_ixR (ev_var rfl) (ev_var rfl) (.l (hp9.mono e10).h1.2) hb.1 hb.2) (ev_var rfl))
      have mlow : ∀ x, x ∈ (L.F v).filter (fun w => decide (X w = lo (wSrt L) X v)) ↔ x ∈ lowest (wSrt L) X v := fun x => by
        unfold lowest
        simp only [List.mem_filter, mem_sF hw.ok h0 h1]
      have mbel : ∀ x, x ∈ ((L.F v).filter (fun w => decide (X w = lo (wSrt L) X v))).filter (fun w => decide (rk w < rk v)) ↔ x ∈ below (wSrt L) X rk v := fun x => by
        unfold below
        rw [List.mem_filter, mlow x, List.mem_filter]
      generalize hLow : (L.F v).filter (fun w => decide (X w = lo (wSrt L) X v)) = low at hpl hpb mlow mbel
      generalize hBel : low.filter (fun w => decide (rk w < rk v)) = bel at hpb mbel
      have e4t := e04.trans (e5.trans (e6.trans (e7.trans (e8.trans (e9.trans e10)))))
      have hw10 := hw.mono e4t
      have hpz10 := (e8.trans (e9.trans e10)) _ _ hpz
      have hbd : fBid (wSrt L) C X rk v a = min (toldB1 (wSrt L) (fun w => rFst X rk v w + (a - X v)) v a) a := by unfold fBid; rw [if_neg hid, if_neg (by rw [hcb]; exact Bool.false_ne_true)]
      have fin : ∀ H11 (st : List Int) (ps : Addr), Ex H10 H11 → H11 ps = some (.lst (intV st)) → st ≠ [] → minOf st = fStep (wSrt L) C X rk v a →
          tRet (tTup (tCons (tCB rMin2' (tCons (tOp (rIx K) (tFn (sp__law_told_bid K) (tCons (tVar 0) (tCons (tVar 10) (tCons (tVar 3) (tCons (tVar 4) (tCons (tC (.int 1)) tNil)))))) (tC (.int 0))) (tCons (tVar 4) tNil))) (tCons (tCB (rMin K) (tCons (tVar 13) tNil)) tNil))) (E1 Q)
            [some (.ref lw), some (.ref c), some (.ref pp), some (.int v), some (.int a), some (.ref r), some (.ref q1), some (.int (a - X v)), some (.int (rk v)), none, some (.ref pz), some (.int (lo (wSrt L) X v)), some (.ref pl), some (.ref ps), none, none, none] H11 := fun H11 st ps e11 hps hne hmin => by
        have hT : Ev (tOp (rIx K) (tFn (sp__law_told_bid K) (tCons (tVar 0) (tCons (tVar 10) (tCons (tVar 3) (tCons (tVar 4) (tCons (tC (.int 1)) tNil)))))) (tC (.int 0))) [some (.ref lw), some (.ref c), some (.ref pp), some (.int v), some (.int a), some (.ref r), some (.ref q1), some (.int (a - X v)), some (.int (rk v)), none, some (.ref pz), some (.int (lo (wSrt L) X v)), some (.ref pl), some (.ref ps), none, none, none] H11 (.int (toldB1 (wSrt L) (fun w => rFst X rk v w + (a - X v)) v a)) :=
          evx_ev (evx_ix (evx_fn (ea_cons (ev_var rfl) (ea_cons (ev_var rfl) (ea_cons (ev_var rfl) (ea_cons (ev_var rfl) (ea_cons ev_c ea_nil))))) (spx_law_told_bid (side := 1) (hw10.mono e11) (.lst (e11 _ _ hpz10)) h0 h1 hm)) fun y H12 e12 ⟨p12, ey, h12⟩ => ⟨p12, _, _, ey, .l h12, rfl, rfl⟩)
        refine s_retX (EvU.toX (eu_tup (vs := [.int (min (toldB1 (wSrt L) (fun w => rFst X rk v w + (a - X v)) v a) a), .int (minOf st)]) (ea_cons (ev_mn hT (ev_var rfl)) (ea_cons (ev_minS (ev_var rfl) (sq_of hps) hne) ea_nil)) (by show 2 ≤ 100000; decide))) fun y H12 e12 ⟨pu, ey, hpu⟩ => ?_
        subst ey
        refine kk pu H12 (e4t.trans (e11.trans e12)) ?_
        rw [hbd, ← hmin]
        exact st_of hpu
      have hst : fStep (wSrt L) C X rk v a = if below (wSrt L) X rk v = [] then minOf (lowest (wSrt L) X v) else minOf (below (wSrt L) X rk v) := by unfold fStep; rw [if_neg hid, if_neg (by rw [hcb]; exact Bool.false_ne_true)]
      have hbl : bel = [] ↔ below (wSrt L) X rk v = [] := by
        rw [List.eq_nil_iff_forall_not_mem, List.eq_nil_iff_forall_not_mem]
        exact ⟨fun z x hx => z x ((mbel x).mpr hx), fun z x hx => z x ((mbel x).mp hx)⟩
      have hlne : low ≠ [] := fun z => by
        obtain ⟨x, hx⟩ := List.exists_mem_of_ne_nil _ (lowest_ne (X := X) hm ok)
        have := (mlow x).mpr hx
        rw [z] at this
        cases this
      have hlen : Ev (tCB (rLenS K) (tCons (tVar 13) tNil)) [some (.ref lw), some (.ref c), some (.ref pp), some (.int v), some (.int a), some (.ref r), some (.ref q1), some (.int (a - X v)), some (.int (rk v)), none, some (.ref pz), some (.int (lo (wSrt L) X v)), some (.ref pl), some (.ref pb), none, none, none] H10 (.int (bel.length : Int)) := by
        have := ev_len' (K := K) (ta := tVar 13) (σ := [some (.ref lw), some (.ref c), some (.ref pp), some (.int v), some (.int a), some (.ref r), some (.ref q1), some (.int (a - X v)), some (.int (rk v)), none, some (.ref pz), some (.int (lo (wSrt L) X v)), some (.ref pl), some (.ref pb), none, none, none]) (ev_var rfl) (.lst hpb)
        rw [intV_len] at this
        exact this
      refine q_when (et_test (ev_eqI hlen ev_c)) (fun hb H11 e11 => ?_) fun hb H11 e11 => ?_
      · have hz : bel = [] := List.eq_nil_of_length_eq_zero (by have := of_decide_eq_true hb; omega)
        refine s_asg (ev_var rfl) fun H12 e12 => fin H12 low pl (e11.trans e12) ((e10.trans (e11.trans e12)) _ _ hpl) hlne ?_
        rw [hst, if_pos (hbl.mp hz)]
        exact minOf_congr mlow
      · have hz : bel ≠ [] := fun z => of_decide_eq_false hb (by rw [z]; rfl)
        refine fin H11 bel pb e11 (e11 _ _ hpb) hz ?_
        rw [hst, if_neg fun z => hz (hbl.mpr z)]
        exact minOf_congr mbel
end
theorem d__law_first {P : Program} {w : World} {K : Frag} {mg : Str → Option Value} {base : Heap} (T : Txt w K mg) {f : Addr} {cdv : Value} {A : Around} {outer : List Env} {s : Shared} {H : Hp} {E : XK} (hr : Room 2 (A.deeper (envOfC "_law_first" (defScope s__law_first) s.heap.objs.size f cdv))) :
    PSs (cxOf CX0 P w K mg base N__law_first "_law_first" (defScope s__law_first) f cdv A outer s H E).nox (defBody s__law_first) (t__law_first K) := by
  exact (pss_cons (ps_set (i := 5) sc__law_first.nd rfl (Or.inr rfl) (pe_ix ix_seq (pv 2) pe_int (fun _ _ => rfl)))
    (pss_cons (ps_set (i := 6) sc__law_first.nd rfl (Or.inr rfl) (pe_ix ix_seq (pv 2) pe_int (fun _ _ => rfl)))
    (pss_cons (ps_set (i := 7) sc__law_first.nd rfl (Or.inr rfl) (pe_op op_sub (pv 4) (pe_ix ix_seq (pv 5) (pv 3) (fun _ _ => rfl))))
    (pss_cons (ps_set (i := 8) sc__law_first.nd rfl (Or.inr rfl) (pe_ix ix_seq (pv 6) (pv 3) (fun _ _ => rfl)))
    (pss_cons (ps_if (PW.pt (pw_or (pt_cmpR op_lt (pv 7) pe_int (nomark _)) (pw_or1 (PW.pt (pw_and (pt_cmpR op_eq (pv 8) pe_int (nomark _)) (pw_and1 (pt_cmpR op_notIn_seq (pv 3) (pv 1) (by rfl)))))))) (pss_one (ps_ret (pe_tup (pa_cons pe_int (pa_cons (pe_callB (cr_min rfl) (by rfl) (T.free (memOf 2 rfl)) b_min (pa_cons (pe_ix ix_seq (pe_ix ix_seq (pv 0) pe_int (fun _ _ => rfl)) (pv 3) (fun _ _ => rfl)) pa_nil)) pa_nil))))) pss_nil)
    (pss_cons (ps_if (pt_cmpR op_in_seq (pv 3) (pv 1) (by rfl)) (pss_cons (ps_set (i := 9) sc__law_first.nd rfl (Or.inl rfl) (pe_f (ok__law_told_bid T) hr (by decide) (by rfl) (pa_cons (pv 0) (pa_cons (pe_lc (own := [("_law_part", 14)]) (g := gName 14) (tt := tYes) (te := (tOp rAdd (tVar 14) (tVar 7))) rfl sc__law_first.nd (pi_seq (pv 5)) (blkOk_by (N := N__law_first) (sc := defScope s__law_first) (by decide +kernel)) (fun _ _ _ _ _ => pg_name (i := 14) sc__law_first.nd rfl (Or.inl rfl)) (fun _ _ _ _ _ => pts_nil) (fun _ _ _ _ _ => (pe_op op_add (pv 14) (pv 7)))) (pa_cons (pv 3) (pa_cons (pv 4) (pa_cons pe_int pa_nil)))))))
    (pss_one (ps_ret (pe_tup (pa_cons (pe_callB (call_min2 rfl) (by rfl) (T.free (memOf 2 rfl)) b_min (pa_cons (pe_ix ix_seq (pv 9) pe_int (fun _ _ => rfl)) (pa_cons (pv 4) pa_nil))) (pa_cons (pe_ix ix_seq (pv 9) pe_int (fun _ _ => rfl)) pa_nil)))))) pss_nil)
    (pss_cons (ps_setLc (i := 10) (own := [("_law_at", 15)]) (g := gName 15) (tt := tYes) (te := (tOp rAdd (tOp rAdd (tOp (rIx K) (tVar 5) (tVar 15)) (tVar 7)) (tCB rInt1 (tCons (tOp rGe (tOp (rIx K) (tVar 6) (tVar 15)) (tVar 8)) tNil)))) rfl sc__law_first.nd rfl rfl (sw_true rfl rfl rfl (by decide +kernel)) (pi_range1 (by rfl) (T.free (memOf 1 rfl)) (pa_cons (pe_callB call_len_seq (by rfl) (T.free (memOf 0 rfl)) b_len (pa_cons (pv 5) pa_nil)) pa_nil)) (blkOk_by (N := N__law_first) (sc := defScope s__law_first) (by decide +kernel)) (fun _ _ _ _ _ => pg_name (i := 15) sc__law_first.nd rfl (Or.inl rfl)) (fun _ _ _ _ _ => pts_nil) (fun _ _ _ _ _ => (pe_op op_add (pe_op op_add (pe_ix ix_seq (pv 5) (pv 15) (fun _ _ => rfl)) (pv 7)) (pe_callTy call_int1 (by rfl) (T.free (memOf 4 rfl)) b_int (pa_cons (pe_cmpR op_ge (pe_ix ix_seq (pv 6) (pv 15) (fun _ _ => rfl)) (pv 8) (nomark _)) pa_nil)))))
    (pss_cons (ps_set (i := 11) sc__law_first.nd rfl (Or.inr rfl) (pe_f (ok__law_low T) hr (by decide) (by rfl) (pa_cons (pv 0) (pa_cons (pv 5) (pa_cons (pv 3) pa_nil)))))
    (pss_cons (ps_setLc (i := 12) (own := [("_law_step", 16)]) (g := gName 16) (tt := (tTest (tOp rEq (tOp (rIx K) (tVar 5) (tVar 16)) (tVar 11)))) (te := (tVar 16)) rfl sc__law_first.nd rfl rfl (sw_true rfl rfl rfl (by decide +kernel)) (pi_seq (pe_ix ix_seq (pe_ix ix_seq (pv 0) pe_int (fun _ _ => rfl)) (pv 3) (fun _ _ => rfl))) (blkOk_by (N := N__law_first) (sc := defScope s__law_first) (by decide +kernel)) (fun _ _ _ _ _ => pg_name (i := 16) sc__law_first.nd rfl (Or.inl rfl)) (fun _ _ _ _ _ => pts_one (pt_cmpR op_eq (pe_ix ix_seq (pv 5) (pv 16) (fun _ _ => rfl)) (pv 11) (nomark _))) (fun _ _ _ _ _ => (pv 16)))
    (pss_cons (ps_setLc (i := 13) (own := [("_law_step", 16)]) (g := gName 16) (tt := (tTest (tOp rLt (tOp (rIx K) (tVar 6) (tVar 16)) (tVar 8)))) (te := (tVar 16)) rfl sc__law_first.nd rfl rfl (sw_true rfl rfl rfl (by decide +kernel)) (pi_seq (pv 12)) (blkOk_by (N := N__law_first) (sc := defScope s__law_first) (by decide +kernel)) (fun _ _ _ _ _ => pg_name (i := 16) sc__law_first.nd rfl (Or.inl rfl)) (fun _ _ _ _ _ => pts_one (pt_cmpR op_lt (pe_ix ix_seq (pv 6) (pv 16) (fun _ _ => rfl)) (pv 8) (nomark _))) (fun _ _ _ _ _ => (pv 16)))
    (pss_cons (ps_if (pt_cmpR op_eq (pe_callB call_len_seq (by rfl) (T.free (memOf 0 rfl)) b_len (pa_cons (pv 13) pa_nil)) pe_int (nomark _)) (pss_one (ps_set (i := 13) sc__law_first.nd rfl (Or.inl rfl) (pv 12))) pss_nil)
    (pss_one (ps_ret (pe_tup (pa_cons (pe_callB (call_min2 rfl) (by rfl) (T.free (memOf 2 rfl)) b_min (pa_cons (pe_ix ix_seq (pe_f (ok__law_told_bid T) hr (by decide) (by rfl) (pa_cons (pv 0) (pa_cons (pv 10) (pa_cons (pv 3) (pa_cons (pv 4) (pa_cons pe_int pa_nil)))))) pe_int (fun _ _ => rfl)) (pa_cons (pv 4) pa_nil))) (pa_cons (pe_callB (cr_min rfl) (by rfl) (T.free (memOf 2 rfl)) b_min (pa_cons (pv 13) pa_nil)) pa_nil))))))))))))))))
theorem ok__law_first {P : Program} {w : World} {K : Frag} {mg : Str → Option Value} {base : Heap} (T : Txt w K mg) : GF P w K mg base "_law_first" 3 (sp__law_first K) := by
  have F := T.def_ (d := xf__law_first) (memOf 91 rfl) rfl
  refine ⟨fnr_mk (k := 2) F sc__law_first (fun _ _ _ _ _ _ us hl => match us, hl with | [_, _, _, _, _], _ => rfl) (fun vs H Q E h => len__law_first h) (fun cdv A outer s H vs Q E hr h => ⟨t__law_first K, d__law_first T hr, pure__law_first T h⟩), ?_, T.glo (memOf 65 rfl)⟩
  obtain ⟨fd, F⟩ := F
  exact F.kp
theorem spx_law_first {K : Frag} {H : Hp} {pot lw c pp r q1 q2 : Addr} {L : Wb} {A : LWA} {C : Int → Bool} {l : List Int} {X rk ct : Int → Int} {v a : Int} (hw : LawW K H pot lw L A) (hc : CAt K H c (wSrt L) C l) (hp : LParts K H pot pp r q1 q2 L.n X rk ct) (h0 : 0 ≤ v) (h1 : v < L.n) (hm : (wSrt L).mov v = true) :
    SpX (sp__law_first K) [.ref lw, .ref c, .ref pp, .int v, .int a] H (fun y H' => ∃ p, y = .ref p ∧ SqT K H' p [.int (fBid (wSrt L) C X rk v a), .int (fStep (wSrt L) C X rk v a)]) :=
  fun H1 e Q q E => ⟨pot, lw, L, A, c, C, l, pp, r, q1, q2, X, rk, ct, v, a, rfl, hw.mono e, hc.mono e, hp.mono e, h0, h1, hm, fun p H2 e2 hh => q _ H2 e2 ⟨p, rfl, hh⟩⟩
def sp__law_second (K : Frag) : Sp := fun vs H Q _ => ∃ pot lw L A k c C l pp r q1 q2 X rk ct v a, vs = [.ref lw, .int k, .ref c, .ref pp, .int v, .int a] ∧ LawW K H pot lw L A ∧ CAt K H c (wSrt L) C l ∧ LParts K H pot pp r q1 q2 L.n X rk ct ∧ 0 ≤ v ∧ v < L.n ∧ (wSrt L).mov v = true ∧ RetP K (sBid (wSrt L) C k X ct v a) (sStep (wSrt L) C X ct v a) H Q
/-! _law_second -/
abbrev N__law_second : List Str := ["_law_web_here", "_law_k", "_law_calls_here", "_law_parts", "_law_stand", "_law_purse", "_law_row", "_law_counts", "_law_spare", "_law_least", "_law_lessened", "_law_told", "_law_at"]
abbrev s__law_second : Stmt := top 99
theorem sc__law_second : FnScope N__law_second ["_law_web_here", "_law_k", "_law_calls_here", "_law_parts", "_law_stand", "_law_purse"] (defScope s__law_second) := ⟨rfl, rfl, rfl, by decide +kernel, rfl, by decide +kernel, by decide +kernel⟩
def t__law_second (K : Frag) : TS := (tSeq (tAsg (tOp (rIx K) (tVar 3) (tC (.int 0))) (gName 6))
    (tSeq (tAsg (tOp (rIx K) (tVar 3) (tC (.int 2))) (gName 7))
    (tSeq (tAsg (tOp rSub (tOp rSub (tOp (rIx K) (tVar 6) (tVar 4)) (tC (.int 1))) (tVar 5)) (gName 8))
    (tSeq (tIfS (tOr (tTest (tOp rLt (tVar 8) (tC (.int 0)))) (tTest (tOp rEq (tOp (rIx K) (tVar 7) (tVar 4)) (tC (.int 0))))) (tRet (tTup (tCons (tC (.int 0)) (tCons (tCB (rMin K) (tCons (tOp (rIx K) (tOp (rIx K) (tVar 0) (tC (.int 1))) (tVar 4)) tNil)) tNil)))) tNext)
    (tSeq (tAsg (tOp rAdd (tOp (rIx K) (tVar 7) (tVar 4)) (tCB rInt1 (tCons (tOp (rIn K true) (tVar 4) (tVar 2)) tNil))) (gName 9))
    (tSeq (tAsg (tLc (iRng1 (tCons (tCB (rLenS K) (tCons (tVar 6) tNil)) tNil)) (gName 12) tYes (tOp rSub (tOp rSub (tOp (rIx K) (tVar 6) (tVar 12)) (tVar 8)) (tCB rInt1 (tCons (tOp rGe (tOp (rIx K) (tVar 7) (tVar 12)) (tVar 9)) tNil))) [12]) (gName 10))
    (tSeq (tAsg (tFn (sp__law_told_bid K) (tCons (tVar 0) (tCons (tVar 10) (tCons (tVar 4) (tCons (tVar 5) (tCons (tC (.int 2)) tNil)))))) (gName 11))
    (tRet (tTup (tCons (tCB rMin2' (tCons (tOp (rIx K) (tVar 11) (tC (.int 0))) (tCons (tOp rSub (tVar 1) (tVar 5)) tNil))) (tCons (tOp (rIx K) (tVar 11) (tC (.int 1))) tNil)))))))))))
section
variable {w : World} {K : Frag} {mg : Str → Option Value} {vs : List V} {H : Hp} {Q : VK} {E : XK}
theorem len__law_second (h : sp__law_second K vs H Q E) : vs.length = 6 := by obtain ⟨pot, lw, L, A, k, c, C, l, pp, r, q1, q2, X, rk, ct, v, a, rfl, _⟩ := h; rfl
theorem pure__law_second (T : Txt w K mg) (h : sp__law_second K vs H Q E) : t__law_second K (E1 Q) (start N__law_second vs) H := by
  obtain ⟨pot, lw, L, A, k, c, C, l, pp, r, q1, q2, X, rk, ct, v, a, rfl, hw, hc, hp, h0, h1, hm, kk⟩ := h
  have ok := wSrt_ok hw.ok
  have hn := hw.n60
  refine q_asg (v := .ref r) (ev_ix (ev_var rfl) ev_c (.l hp.h.2) rfl) fun H1 e1 => ?_
  refine q_asg (v := .ref q2) (ev_ix (ev_var rfl) ev_c (.l (hp.mono e1).h.2) rfl) fun H2 e2 => ?_
  have e02 := e1.trans e2
  refine q_asg (ev_I (ev_I (ev_ixR (ev_var rfl) (ev_var rfl) (.l (hp.mono e02).hr.2) h0 h1) ev_c) (ev_var rfl)) fun H3 e3 => ?_
  have e03 := e02.trans e3
  have hw3 := hw.mono e03
  have hp3 := hp.mono e03
  refine q_when (et_or (et_test (ev_I (ev_var rfl) ev_c)) fun _ => et_test (ev_eqI (ev_ixR (ev_var rfl) (ev_var rfl) (.l hp3.h2.2) h0 h1) ev_c)) (fun hb H5 e5 => ?_) fun hb H5 e5 => ?_
  · have hid : sIdle X ct v a := by unfold sIdle; simpa using hb
    have hw5 := hw3.mono e5
    have hne : L.S v ≠ [] := ne_S hw.ok h0 h1 (by rw [← wSrt_mov hw.ok h0 h1]; exact hm)
    have hmn : minOf (L.S v) = minOf ((wSrt L).S v) := minOf_congr fun x => (mem_sS hw.ok h0 h1).symm
    refine s_retX (EvU.toX (eu_tup (vs := [.int 0, .int (minOf (L.S v))]) (ea_cons ev_c (ea_cons (ev_minS (ev_LS (ev_var rfl) hw5 (ev_var rfl) h0 h1) (hw5.fs v h0 h1).1.2 hne) ea_nil)) (by show 2 ≤ 100000; decide))) fun y H6 e6 ⟨pt, ey, hpt⟩ => ?_
    subst ey
    refine kk pt H6 (e03.trans (e5.trans e6)) ?_
    unfold sBid sStep
    rw [if_pos hid, if_pos hid, ← hmn]
    exact st_of hpt
  · have hid : ¬ sIdle X ct v a := by
      unfold sIdle
      intro z
      have : (decide (X v - 1 - a < 0) || decide (ct v = 0)) = true := by simpa using z
      rw [this] at hb
      cases hb
    have hw5 := hw3.mono e5
    have hp5 := hp3.mono e5
    have hb1 : b1 (!C v) = if C v = true then 0 else 1 := by
      unfold b1
      cases C v <;> rfl
    refine q_asg (v := .int (ct v + (if C v = true then 0 else 1))) (ev_is (ev_I (ev_ixR (ev_var rfl) (ev_var rfl) (.l hp5.h2.2) h0 h1) (ev_intB (ev_ninC (ev_var rfl) (ev_var rfl) (hc.mono (e03.trans e5))))) (by rw [hb1])) fun H6 e6 => ?_
    have hp6 := hp5.mono e6
    have eqR : ∀ w, X w - (X v - 1 - a) - b1 (decide (ct v + (if C v = true then 0 else 1) ≤ ct w)) = rSnd C X ct v w - (X v - 1 - a) := fun w => by
      have := dn1_b1 X (fun w => decide (ct v + (if C v = true then 0 else 1) ≤ ct w)) w
      unfold rSnd
      omega
    refine q_asgL (el_lrR (n := L.n) (g := fun w => rSnd C X ct v w - (X v - 1 - a)) (ea_cons (ev_lenR (ev_var rfl) (.l hp6.hr.2)) ea_nil) (by omega) (fun _ => rfl) (fun w H7 e7 g0 g1 => ev_is (ev_I (ev_I (ev_ixR (ev_var rfl) (ev_var rfl) (.l (hp6.mono e7).hr.2) g0 g1) (ev_var rfl)) (ev_intB (ev_I (ev_ixR (ev_var rfl) (ev_var rfl) (.l (hp6.mono e7).h2.2) g0 g1) (ev_var rfl)))) (congrArg V.int (eqR w)))) fun pz H7 nz e7 hpz => ?_
    have hw7 := hw5.mono (e6.trans e7)
    refine q_asgX (evx_fn (ea_cons (ev_var rfl) (ea_cons (ev_var rfl) (ea_cons (ev_var rfl) (ea_cons (ev_var rfl) (ea_cons ev_c ea_nil))))) (spx_law_told_bid (side := 2) hw7 (.lst hpz) h0 h1 hm)) fun y H8 e8 ⟨pt, ey, hpt⟩ => ?_
    subst ey
    refine s_retX (EvU.toX (eu_tup (vs := [.int (min (toldB2 (wSrt L) (fun w => rSnd C X ct v w - (X v - 1 - a)) v a) (k - a)), .int (toldS2 (wSrt L) (fun w => rSnd C X ct v w - (X v - 1 - a)) v)]) (ea_cons (ev_mn (ev_ix (ev_var rfl) ev_c (.l hpt) rfl) (ev_I (ev_var rfl) (ev_var rfl))) (ea_cons (ev_ix (ev_var rfl) ev_c (.l hpt) rfl) ea_nil)) (by show 2 ≤ 100000; decide))) fun y H9 e9 ⟨pu, ey, hpu⟩ => ?_
    subst ey
    refine kk pu H9 ((e03.trans (e5.trans (e6.trans e7))).trans (e8.trans e9)) ?_
    unfold sBid sStep
    rw [if_neg hid, if_neg hid]
    exact st_of hpu
end
theorem d__law_second {P : Program} {w : World} {K : Frag} {mg : Str → Option Value} {base : Heap} (T : Txt w K mg) {f : Addr} {cdv : Value} {A : Around} {outer : List Env} {s : Shared} {H : Hp} {E : XK} (hr : Room 2 (A.deeper (envOfC "_law_second" (defScope s__law_second) s.heap.objs.size f cdv))) :
    PSs (cxOf CX0 P w K mg base N__law_second "_law_second" (defScope s__law_second) f cdv A outer s H E).nox (defBody s__law_second) (t__law_second K) := by
  exact (pss_cons (ps_set (i := 6) sc__law_second.nd rfl (Or.inr rfl) (pe_ix ix_seq (pv 3) pe_int (fun _ _ => rfl)))
    (pss_cons (ps_set (i := 7) sc__law_second.nd rfl (Or.inr rfl) (pe_ix ix_seq (pv 3) pe_int (fun _ _ => rfl)))
    (pss_cons (ps_set (i := 8) sc__law_second.nd rfl (Or.inr rfl) (pe_op op_sub (pe_op op_sub (pe_ix ix_seq (pv 6) (pv 4) (fun _ _ => rfl)) pe_int) (pv 5)))
    (pss_cons (ps_if (PW.pt (pw_or (pt_cmpR op_lt (pv 8) pe_int (nomark _)) (pw_or1 (pt_cmpR op_eq (pe_ix ix_seq (pv 7) (pv 4) (fun _ _ => rfl)) pe_int (nomark _))))) (pss_one (ps_ret (pe_tup (pa_cons pe_int (pa_cons (pe_callB (cr_min rfl) (by rfl) (T.free (memOf 2 rfl)) b_min (pa_cons (pe_ix ix_seq (pe_ix ix_seq (pv 0) pe_int (fun _ _ => rfl)) (pv 4) (fun _ _ => rfl)) pa_nil)) pa_nil))))) pss_nil)
    (pss_cons (ps_set (i := 9) sc__law_second.nd rfl (Or.inr rfl) (pe_op op_add (pe_ix ix_seq (pv 7) (pv 4) (fun _ _ => rfl)) (pe_callTy call_int1 (by rfl) (T.free (memOf 4 rfl)) b_int (pa_cons (pe_cmpR op_notIn_seq (pv 4) (pv 2) (by rfl)) pa_nil))))
    (pss_cons (ps_setLc (i := 10) (own := [("_law_at", 12)]) (g := gName 12) (tt := tYes) (te := (tOp rSub (tOp rSub (tOp (rIx K) (tVar 6) (tVar 12)) (tVar 8)) (tCB rInt1 (tCons (tOp rGe (tOp (rIx K) (tVar 7) (tVar 12)) (tVar 9)) tNil)))) rfl sc__law_second.nd rfl rfl (sw_true rfl rfl rfl (by decide +kernel)) (pi_range1 (by rfl) (T.free (memOf 1 rfl)) (pa_cons (pe_callB call_len_seq (by rfl) (T.free (memOf 0 rfl)) b_len (pa_cons (pv 6) pa_nil)) pa_nil)) (blkOk_by (N := N__law_second) (sc := defScope s__law_second) (by decide +kernel)) (fun _ _ _ _ _ => pg_name (i := 12) sc__law_second.nd rfl (Or.inl rfl)) (fun _ _ _ _ _ => pts_nil) (fun _ _ _ _ _ => (pe_op op_sub (pe_op op_sub (pe_ix ix_seq (pv 6) (pv 12) (fun _ _ => rfl)) (pv 8)) (pe_callTy call_int1 (by rfl) (T.free (memOf 4 rfl)) b_int (pa_cons (pe_cmpR op_ge (pe_ix ix_seq (pv 7) (pv 12) (fun _ _ => rfl)) (pv 9) (nomark _)) pa_nil)))))
    (pss_cons (ps_set (i := 11) sc__law_second.nd rfl (Or.inl rfl) (pe_f (ok__law_told_bid T) hr (by decide) (by rfl) (pa_cons (pv 0) (pa_cons (pv 10) (pa_cons (pv 4) (pa_cons (pv 5) (pa_cons pe_int pa_nil)))))))
    (pss_one (ps_ret (pe_tup (pa_cons (pe_callB (call_min2 rfl) (by rfl) (T.free (memOf 2 rfl)) b_min (pa_cons (pe_ix ix_seq (pv 11) pe_int (fun _ _ => rfl)) (pa_cons (pe_op op_sub (pv 1) (pv 5)) pa_nil))) (pa_cons (pe_ix ix_seq (pv 11) pe_int (fun _ _ => rfl)) pa_nil))))))))))))
theorem ok__law_second {P : Program} {w : World} {K : Frag} {mg : Str → Option Value} {base : Heap} (T : Txt w K mg) : GF P w K mg base "_law_second" 3 (sp__law_second K) := by
  have F := T.def_ (d := xf__law_second) (memOf 92 rfl) rfl
  refine ⟨fnr_mk (k := 2) F sc__law_second (fun _ _ _ _ _ _ us hl => match us, hl with | [_, _, _, _, _, _], _ => rfl) (fun vs H Q E h => len__law_second h) (fun cdv A outer s H vs Q E hr h => ⟨t__law_second K, d__law_second T hr, pure__law_second T h⟩), ?_, T.glo (memOf 66 rfl)⟩
  obtain ⟨fd, F⟩ := F
  exact F.kp
theorem spx_law_second {K : Frag} {H : Hp} {pot lw c pp r q1 q2 : Addr} {L : Wb} {A : LWA} {C : Int → Bool} {l : List Int} {X rk ct : Int → Int} {k v a : Int} (hw : LawW K H pot lw L A) (hc : CAt K H c (wSrt L) C l) (hp : LParts K H pot pp r q1 q2 L.n X rk ct) (h0 : 0 ≤ v) (h1 : v < L.n) (hm : (wSrt L).mov v = true) :
    SpX (sp__law_second K) [.ref lw, .int k, .ref c, .ref pp, .int v, .int a] H (fun y H' => ∃ p, y = .ref p ∧ SqT K H' p [.int (sBid (wSrt L) C k X ct v a), .int (sStep (wSrt L) C X ct v a)]) :=
  fun H1 e Q q E => ⟨pot, lw, L, A, k, c, C, l, pp, r, q1, q2, X, rk, ct, v, a, rfl, hw.mono e, hc.mono e, hp.mono e, h0, h1, hm, fun p H2 e2 hh => q _ H2 e2 ⟨p, rfl, hh⟩⟩
def sp__law_move (K : Frag) : Sp := fun vs H Q _ => ∃ pot lw L A v a x y p s q t, vs = [.ref lw, .int v, .int a, .ref x, .ref y] ∧ LawW K H pot lw L A ∧ SqT K H x [.int p, .int s] ∧ SqT K H y [.int q, .int t] ∧ 0 ≤ v ∧ v < L.n ∧ RetP K (movS (wSrt L) v p q s t) (movA (wSrt L) v a p q) H Q
/-! _law_move -/
abbrev N__law_move : List Str := ["_law_web_here", "_law_stand", "_law_purse", "_law_first_here", "_law_second_here"]
abbrev s__law_move : Stmt := top 100
theorem sc__law_move : FnScope N__law_move ["_law_web_here", "_law_stand", "_law_purse", "_law_first_here", "_law_second_here"] (defScope s__law_move) := ⟨rfl, rfl, rfl, by decide +kernel, rfl, by decide +kernel, by decide +kernel⟩
def t__law_move (K : Frag) : TS := (tSeq (tIfS (tOr (tTest (tOp rGt (tOp (rIx K) (tVar 3) (tC (.int 0))) (tOp (rIx K) (tVar 4) (tC (.int 0))))) (tAnd (tTest (tOp rEq (tOp (rIx K) (tVar 3) (tC (.int 0))) (tOp (rIx K) (tVar 4) (tC (.int 0))))) (tTest (tOp rEq (tOp (rIx K) (tOp (rIx K) (tVar 0) (tC (.int 2))) (tVar 1)) (tC (.int 1)))))) (tRet (tTup (tCons (tOp (rIx K) (tVar 3) (tC (.int 1))) (tCons (tOp rSub (tVar 2) (tOp (rIx K) (tVar 3) (tC (.int 0)))) tNil)))) tNext)
    (tRet (tTup (tCons (tOp (rIx K) (tVar 4) (tC (.int 1))) (tCons (tOp rAdd (tVar 2) (tOp (rIx K) (tVar 4) (tC (.int 0)))) tNil)))))
section
variable {w : World} {K : Frag} {mg : Str → Option Value} {vs : List V} {H : Hp} {Q : VK} {E : XK}
theorem len__law_move (h : sp__law_move K vs H Q E) : vs.length = 5 := by obtain ⟨pot, lw, L, A, v, a, x, y, p, s, q, t, rfl, _⟩ := h; rfl
theorem pure__law_move (T : Txt w K mg) (h : sp__law_move K vs H Q E) : t__law_move K (E1 Q) (start N__law_move vs) H := by
  obtain ⟨pot, lw, L, A, v, a, x, y, p, s, q, t, rfl, hw, hx, hy, h0, h1, kk⟩ := h
  have X0 : ∀ {H1}, Ex H H1 → Ev (tOp (rIx K) (tVar 3) (tC (.int 0))) (start N__law_move [.ref lw, .int v, .int a, .ref x, .ref y]) H1 (.int p) := fun e => ev_ix (ev_var rfl) ev_c (.t (ex_t e hx)) rfl
  have X1 : ∀ {H1}, Ex H H1 → Ev (tOp (rIx K) (tVar 3) (tC (.int 1))) (start N__law_move [.ref lw, .int v, .int a, .ref x, .ref y]) H1 (.int s) := fun e => ev_ix (ev_var rfl) ev_c (.t (ex_t e hx)) rfl
  have Y0 : ∀ {H1}, Ex H H1 → Ev (tOp (rIx K) (tVar 4) (tC (.int 0))) (start N__law_move [.ref lw, .int v, .int a, .ref x, .ref y]) H1 (.int q) := fun e => ev_ix (ev_var rfl) ev_c (.t (ex_t e hy)) rfl
  have Y1 : ∀ {H1}, Ex H H1 → Ev (tOp (rIx K) (tVar 4) (tC (.int 1))) (start N__law_move [.ref lw, .int v, .int a, .ref x, .ref y]) H1 (.int t) := fun e => ev_ix (ev_var rfl) ev_c (.t (ex_t e hy)) rfl
  refine q_when (et_or (et_test (ev_I (X0 (Ex.refl _)) (Y0 (Ex.refl _)))) fun _ => et_and (et_test (ev_eqI (X0 (Ex.refl _)) (Y0 (Ex.refl _)))) fun _ => et_test (ev_eqI (ev_LM (ev_var rfl) hw (ev_var rfl) h0 h1) ev_c)) (fun hb H1 e1 => ?_) fun hb H1 e1 => ?_
  · have z : q < p ∨ (p = q ∧ (wSrt L).mark v = 1) := by
      have := hb
      simp only [Bool.or_eq_true, Bool.and_eq_true, decide_eq_true_eq] at this
      exact this
    refine s_retX (EvU.toX (eu_tup (vs := [.int s, .int (a - p)]) (ea_cons (X1 e1) (ea_cons (ev_I (ev_var rfl) (X0 e1)) ea_nil)) (by show 2 ≤ 100000; decide))) fun y H2 e2 ⟨pp, ey, hp⟩ => ?_
    subst ey
    refine kk pp H2 (e1.trans e2) ?_
    unfold movS movA
    rw [if_pos z, if_pos z]
    exact st_of hp
  · have z : ¬ (q < p ∨ (p = q ∧ (wSrt L).mark v = 1)) := fun y => by
      have : (decide (q < p) || decide (p = q) && decide (L.mark v = 1)) = true := by
        simp only [Bool.or_eq_true, Bool.and_eq_true, decide_eq_true_eq]
        exact y
      rw [this] at hb
      cases hb
    refine s_retX (EvU.toX (eu_tup (vs := [.int t, .int (a + q)]) (ea_cons (Y1 e1) (ea_cons (ev_I (ev_var rfl) (Y0 e1)) ea_nil)) (by show 2 ≤ 100000; decide))) fun y H2 e2 ⟨pp, ey, hp⟩ => ?_
    subst ey
    refine kk pp H2 (e1.trans e2) ?_
    unfold movS movA
    rw [if_neg z, if_neg z]
    exact st_of hp
end
theorem d__law_move {P : Program} {w : World} {K : Frag} {mg : Str → Option Value} {base : Heap} (T : Txt w K mg) {f : Addr} {cdv : Value} {A : Around} {outer : List Env} {s : Shared} {H : Hp} {E : XK} (hr : Room 0 (A.deeper (envOfC "_law_move" (defScope s__law_move) s.heap.objs.size f cdv))) :
    PSs (cxOf CX0 P w K mg base N__law_move "_law_move" (defScope s__law_move) f cdv A outer s H E).nox (defBody s__law_move) (t__law_move K) := by
  exact (pss_cons (ps_if (PW.pt (pw_or (pt_cmpR op_gt (pe_ix ix_seq (pv 3) pe_int (fun _ _ => rfl)) (pe_ix ix_seq (pv 4) pe_int (fun _ _ => rfl)) (nomark _)) (pw_or1 (PW.pt (pw_and (pt_cmpR op_eq (pe_ix ix_seq (pv 3) pe_int (fun _ _ => rfl)) (pe_ix ix_seq (pv 4) pe_int (fun _ _ => rfl)) (nomark _)) (pw_and1 (pt_cmpR op_eq (pe_ix ix_seq (pe_ix ix_seq (pv 0) pe_int (fun _ _ => rfl)) (pv 1) (fun _ _ => rfl)) pe_int (nomark _)))))))) (pss_one (ps_ret (pe_tup (pa_cons (pe_ix ix_seq (pv 3) pe_int (fun _ _ => rfl)) (pa_cons (pe_op op_sub (pv 2) (pe_ix ix_seq (pv 3) pe_int (fun _ _ => rfl))) pa_nil))))) pss_nil)
    (pss_one (ps_ret (pe_tup (pa_cons (pe_ix ix_seq (pv 4) pe_int (fun _ _ => rfl)) (pa_cons (pe_op op_add (pv 2) (pe_ix ix_seq (pv 4) pe_int (fun _ _ => rfl))) pa_nil))))))
theorem ok__law_move {P : Program} {w : World} {K : Frag} {mg : Str → Option Value} {base : Heap} (T : Txt w K mg) : GF P w K mg base "_law_move" 1 (sp__law_move K) := by
  have F := T.def_ (d := xf__law_move) (memOf 93 rfl) rfl
  refine ⟨fnr_mk (k := 0) F sc__law_move (fun _ _ _ _ _ _ us hl => match us, hl with | [_, _, _, _, _], _ => rfl) (fun vs H Q E h => len__law_move h) (fun cdv A outer s H vs Q E hr h => ⟨t__law_move K, d__law_move T hr, pure__law_move T h⟩), ?_, T.glo (memOf 67 rfl)⟩
  obtain ⟨fd, F⟩ := F
  exact F.kp
theorem spx_law_move {K : Frag} {H : Hp} {pot lw x y : Addr} {L : Wb} {A : LWA} {v a p s q t : Int} (hw : LawW K H pot lw L A) (hx : SqT K H x [.int p, .int s]) (hy : SqT K H y [.int q, .int t]) (h0 : 0 ≤ v) (h1 : v < L.n) :
    SpX (sp__law_move K) [.ref lw, .int v, .int a, .ref x, .ref y] H (fun y H' => ∃ z, y = .ref z ∧ SqT K H' z [.int (movS (wSrt L) v p q s t), .int (movA (wSrt L) v a p q)]) :=
  fun H1 e Q qq E => ⟨pot, lw, L, A, v, a, x, y, p, s, q, t, rfl, hw.mono e, ex_t e hx, ex_t e hy, h0, h1, fun z H2 e2 hh => qq _ H2 e2 ⟨z, rfl, hh⟩⟩
end Pw
end

section
set_option maxRecDepth 100000
set_option maxHeartbeats 4000000
/-! The law's duel, its look at all states. -/
namespace Pw
open PySem PySem.Spec L2 Evl StX PwS SlX
open PyProof.Rows hiding St
theorem ea_last {σ : L2.St} {H : Hp} {te : TE} {P : V → Hp → Prop} (h : EvX te σ H P) : EvAX (tCons te tNil) σ H (fun ws H' => ∃ x, ws = [x] ∧ P x H') := fun H1 e Q q => h H1 e _ fun x H2 e2 p => q [x] H2 e2 ⟨x, rfl, p⟩
theorem evx_varT {K : Frag} {σ : L2.St} {H : Hp} {i : Nat} {p : Addr} {xs : List V} (h : σ[i]? = some (some (.ref p))) (hp : SqT K H p xs) : EvX (tVar i) σ H (fun y H' => ∃ p, y = .ref p ∧ SqT K H' p xs) := fun H1 e Q q => ⟨_, h, q _ H1 (Ex.refl _) ⟨p, rfl, ex_t e hp⟩⟩
theorem cb_b1 (C : Int → Bool) (v : Int) : b1 (C v) = cb C v := rfl
def sp__law_duel (K : Frag) : Sp := fun vs H Q _ => ∃ pot lw L A k c C l pp r q1 q2 X rk ct v a m, vs = [.ref lw, .int k, .ref c, .ref pp, .int v, .int a, .int m] ∧ LawW K H pot lw L A ∧ CAt K H c (wSrt L) C l ∧ LParts K H pot pp r q1 q2 L.n X rk ct ∧ 0 ≤ v ∧ v < L.n ∧ 0 ≤ a ∧ a ≤ k ∧ 0 ≤ m ∧ m ≤ 5000 ∧
  ∀ q H', Ex H H' → SqT K H' q [.int (dRun (wSrt L) C k X rk ct v a m.toNat).vis, dWord (wSrt L) k (dRun (wSrt L) C k X rk ct v a m.toNat), .int (dRun (wSrt L) C k X rk ct v a m.toNat).mov] → Q (.ref q) H'
/-! _law_duel -/
abbrev N__law_duel : List Str := ["_law_web_here", "_law_k", "_law_calls_here", "_law_parts", "_law_stand", "_law_purse", "_law_most", "_law_visits", "_law_moves", "_law_turn", "_law_first_here", "_law_state"]
abbrev s__law_duel : Stmt := top 101
theorem sc__law_duel : FnScope N__law_duel ["_law_web_here", "_law_k", "_law_calls_here", "_law_parts", "_law_stand", "_law_purse", "_law_most"] (defScope s__law_duel) := ⟨rfl, rfl, rfl, by decide +kernel, rfl, by decide +kernel, by decide +kernel⟩
def t__law_duel (K : Frag) : TS := (tSeq (tAsg (tCB rInt1 (tCons (tOp (rIn K false) (tVar 4) (tVar 2)) tNil)) (gName 7))
    (tSeq (tAsg (tC (.int 0)) (gName 8))
    (tSeq (tFor (iRng1 (tCons (tVar 6) tNil)) (gName 9) (tIfS (tTest (tOp rGt (tCB (rLenS K) (tCons (tOp (rIx K) (tOp (rIx K) (tVar 0) (tC (.int 0))) (tVar 4)) tNil)) (tC (.int 0)))) (tSeq (tAsg (tFn (sp__law_first K) (tCons (tVar 0) (tCons (tVar 2) (tCons (tVar 3) (tCons (tVar 4) (tCons (tVar 5) tNil)))))) (gName 10))
    (tSeq (tAsg (tFn (sp__law_move K) (tCons (tVar 0) (tCons (tVar 4) (tCons (tVar 5) (tCons (tVar 10) (tCons (tFn (sp__law_second K) (tCons (tVar 0) (tCons (tVar 1) (tCons (tVar 2) (tCons (tVar 3) (tCons (tVar 4) (tCons (tVar 5) tNil))))))) tNil)))))) (gName 11))
    (tSeq (tAsg (tOp (rIx K) (tVar 11) (tC (.int 0))) (gName 4))
    (tSeq (tAsg (tOp (rIx K) (tVar 11) (tC (.int 1))) (gName 5))
    (tSeq (tAsg (tOp rAdd (tVar 8) (tC (.int 1))) (gName 8))
    (tAsg (tOp rAdd (tVar 7) (tCB rInt1 (tCons (tOp (rIn K false) (tVar 4) (tVar 2)) tNil))) (gName 7))))))) tNext))
    (tSeq (tIfS (tTest (tOp rGt (tCB (rLenS K) (tCons (tOp (rIx K) (tOp (rIx K) (tVar 0) (tC (.int 0))) (tVar 4)) tNil)) (tC (.int 0)))) (tRet (tTup (tCons (tVar 7) (tCons (tC (.str "going")) (tCons (tVar 8) tNil))))) tNext)
    (tSeq (tIfS (tTest (tOp rGe (tVar 5) (tFn (sp__law_due_at K) (tCons (tOp (rIx K) (tOp (rIx K) (tVar 0) (tC (.int 3))) (tVar 4)) (tCons (tVar 1) tNil))))) (tRet (tTup (tCons (tVar 7) (tCons (tC (.str "paid")) (tCons (tVar 8) tNil))))) tNext)
    (tRet (tTup (tCons (tVar 7) (tCons (tC (.str "lost")) (tCons (tVar 8) tNil))))))))))
section
variable {w : World} {K : Frag} {mg : Str → Option Value} {vs : List V} {H : Hp} {Q : VK} {E : XK}
theorem len__law_duel (h : sp__law_duel K vs H Q E) : vs.length = 7 := by obtain ⟨pot, lw, L, A, k, c, C, l, pp, r, q1, q2, X, rk, ct, v, a, m, rfl, _⟩ := h; rfl
theorem pure__law_duel (T : Txt w K mg) (h : sp__law_duel K vs H Q E) : t__law_duel K (E1 Q) (start N__law_duel vs) H := by
  obtain ⟨pot, lw, L, A, k, c, C, l, pp, r, q1, q2, X, rk, ct, v, a, m, rfl, hw, hc, hp, h0, h1, h2, h3, h4, h5, q⟩ := h
  have ok := wSrt_ok hw.ok
  have rin := fun i => dRun_in ok (C := C) (k := k) (X := X) (rk := rk) (ct := ct) (v := v) (a := a) ⟨h0, h1, h2, h3⟩ i
  refine q_asg (v := .int (cb C v)) (ev_is (ev_intB (ev_inC (ev_var rfl) (ev_var rfl) hc)) (by rw [cb_b1])) fun H1 e1 => ?_
  refine q_asg ev_c fun H2 e2 => ?_
  have e02 := e1.trans e2
  refine q_forR1 (n := m) (ea_cons (ev_var rfl) ea_nil) ⟨h4, by omega⟩ (fun i σ' H' => Ex H H' ∧ ∃ v9 v10 v11, σ' = [some (.ref lw), some (.int k), some (.ref c), some (.ref pp), some (.int (dRun (wSrt L) C k X rk ct v a i).v), some (.int (dRun (wSrt L) C k X rk ct v a i).a), some (.int m), some (.int (dRun (wSrt L) C k X rk ct v a i).vis), some (.int (dRun (wSrt L) C k X rk ct v a i).mov), v9, v10, v11])
    (fun H3 e3 => ⟨e02.trans e3, _, _, _, rfl⟩) ?_ ?_
  · rintro i σ' H3 hi ⟨e3, v9, v10, v11, rfl⟩
    obtain ⟨i0, i1, i2, i3⟩ := rin i
    have hnx : dRun (wSrt L) C k X rk ct v a (i + 1) = if (wSrt L).mov (dRun (wSrt L) C k X rk ct v a i).v = true then dNext (wSrt L) C k X rk ct (dRun (wSrt L) C k X rk ct v a i) else dRun (wSrt L) C k X rk ct v a i := rfl
    rw [hnx]
    generalize dRun (wSrt L) C k X rk ct v a i = s at i0 i1 i2 i3
    have hw3 := hw.mono e3
    refine s_when (et_Lmov (ev_var rfl) hw3 (ev_var rfl) i0 i1) (fun hm H4 e4 => ?_) fun hm H4 e4 => ?_
    · rw [if_pos hm]
      have e34 := e3.trans e4
      refine q_asgX (evx_fn (ea_cons (ev_var rfl) (ea_cons (ev_var rfl) (ea_cons (ev_var rfl) (ea_cons (ev_var rfl) (ea_cons (ev_var rfl) ea_nil))))) (spx_law_first (hw.mono e34) (hc.mono e34) (hp.mono e34) i0 i1 hm)) fun y H5 e5 ⟨pf, ey, hpf⟩ => ?_
      subst ey
      have e35 := e34.trans e5
      refine q_asgX (P := fun y H' => ∃ z, y = .ref z ∧ SqT K H' z [.int (dNext (wSrt L) C k X rk ct s).v, .int (dNext (wSrt L) C k X rk ct s).a]) (evx_fnX (ea_1 (ev_var rfl) (ea_1 (ev_var rfl) (ea_1 (ev_var rfl) (ea_1 (ev_var rfl) (ea_last (evx_fn (ea_cons (ev_var rfl) (ea_cons (ev_var rfl) (ea_cons (ev_var rfl) (ea_cons (ev_var rfl) (ea_cons (ev_var rfl) (ea_cons (ev_var rfl) ea_nil)))))) (spx_law_second (hw.mono e35) (hc.mono e35) (hp.mono e35) i0 i1 hm)))))))
        fun vs H6 e6 ⟨_, eu1, _, eu2, _, eu3, _, eu4, x, eu5, ps, ex, hps⟩ => ?_) fun y H6 e6 ⟨pz, ey, hpz⟩ => ?_
      · subst eu1
        subst eu2
        subst eu3
        subst eu4
        subst eu5
        subst ex
        exact spx_law_move ((hw.mono e35).mono e6) (ex_t e6 hpf) hps i0 i1
      · subst ey
        refine q_asg (ev_ix (ev_var rfl) ev_c (.t hpz) rfl) fun H7 e7 => ?_
        refine q_asg (ev_ix (ev_var rfl) ev_c (.t (ex_t e7 hpz)) rfl) fun H8 e8 => ?_
        refine q_asg (ev_I (ev_var rfl) ev_c) fun H9 e9 => ?_
        have e69 := (e6.trans e7).trans (e8.trans e9)
        refine s_asg (v := .int (dNext (wSrt L) C k X rk ct s).vis) (ev_is (ev_I (ev_var rfl) (ev_intB (ev_inC (ev_var rfl) (ev_var rfl) (hc.mono (e35.trans e69))))) rfl) fun H10 e10 => ⟨e35.trans (e69.trans e10), _, _, _, rfl⟩
    · rw [if_neg (by rw [hm]; exact Bool.false_ne_true)]
      exact ⟨e3.trans e4, _, _, _, rfl⟩
  · rintro σ' H3 ⟨e3, v9, v10, v11, rfl⟩
    obtain ⟨i0, i1, i2, i3⟩ := rin m.toNat
    generalize dRun (wSrt L) C k X rk ct v a m.toNat = s at i0 i1 i2 i3 q
    have hw3 := hw.mono e3
    refine q_when (et_Lmov (ev_var rfl) hw3 (ev_var rfl) i0 i1) (fun hm H4 e4 => ?_) fun hm H4 e4 => ?_
    · refine s_retX (EvU.toX (eu_tup (vs := [.int s.vis, .str "going", .int s.mov]) (ea_cons (ev_var rfl) (ea_cons ev_c (ea_cons (ev_var rfl) ea_nil))) (by show 3 ≤ 100000; decide))) fun y H9 e9 ⟨pt, ey, hpt⟩ => ?_
      subst ey
      refine q pt H9 (e3.trans (e4.trans e9)) ?_
      unfold dWord
      rw [if_pos hm]
      exact st_of hpt
    · have hw4 := hw3.mono e4
      refine q_when (et_test (ev_I (ev_var rfl) (ev_fn (ea_cons (ev_LD (ev_var rfl) hw4 (ev_var rfl) i0 i1) (ea_cons (ev_var rfl) ea_nil)) (spv_law_due_at (hw4.hg s.v i0 i1))))) (fun hz H5 e5 => ?_) fun hz H5 e5 => ?_
      · refine s_retX (EvU.toX (eu_tup (vs := [.int s.vis, .str "paid", .int s.mov]) (ea_cons (ev_var rfl) (ea_cons ev_c (ea_cons (ev_var rfl) ea_nil))) (by show 3 ≤ 100000; decide))) fun y H9 e9 ⟨pt, ey, hpt⟩ => ?_
        subst ey
        refine q pt H9 (e3.trans (e4.trans (e5.trans e9))) ?_
        unfold dWord
        rw [if_neg (by rw [hm]; exact Bool.false_ne_true), if_pos (show dueAt ((wSrt L).due s.v) (k + 1) ≤ s.a from of_decide_eq_true hz)]
        exact st_of hpt
      · refine s_retX (EvU.toX (eu_tup (vs := [.int s.vis, .str "lost", .int s.mov]) (ea_cons (ev_var rfl) (ea_cons ev_c (ea_cons (ev_var rfl) ea_nil))) (by show 3 ≤ 100000; decide))) fun y H9 e9 ⟨pt, ey, hpt⟩ => ?_
        subst ey
        refine q pt H9 (e3.trans (e4.trans (e5.trans e9))) ?_
        unfold dWord
        rw [if_neg (by rw [hm]; exact Bool.false_ne_true), if_neg (show ¬ dueAt ((wSrt L).due s.v) (k + 1) ≤ s.a from of_decide_eq_false hz)]
        exact st_of hpt
end
theorem d__law_duel {P : Program} {w : World} {K : Frag} {mg : Str → Option Value} {base : Heap} (T : Txt w K mg) {f : Addr} {cdv : Value} {A : Around} {outer : List Env} {s : Shared} {H : Hp} {E : XK} (hr : Room 3 (A.deeper (envOfC "_law_duel" (defScope s__law_duel) s.heap.objs.size f cdv))) :
    PSs (cxOf CX0 P w K mg base N__law_duel "_law_duel" (defScope s__law_duel) f cdv A outer s H E).nox (defBody s__law_duel) (t__law_duel K) := by
  exact (pss_cons (ps_set (i := 7) sc__law_duel.nd rfl (Or.inl rfl) (pe_callTy call_int1 (by rfl) (T.free (memOf 4 rfl)) b_int (pa_cons (pe_cmpR op_in_seq (pv 4) (pv 2) (by rfl)) pa_nil)))
    (pss_cons (ps_set (i := 8) sc__law_duel.nd rfl (Or.inl rfl) pe_int)
    (pss_cons (ps_for PassesOwn.never rfl (pi_range1 (by rfl) (T.free (memOf 1 rfl)) (pa_cons (pv 6) pa_nil)) (pg_name (i := 9) sc__law_duel.nd rfl (Or.inl rfl)) (pss_one (ps_if (pt_cmpR op_gt (pe_callB call_len_seq (by rfl) (T.free (memOf 0 rfl)) b_len (pa_cons (pe_ix ix_seq (pe_ix ix_seq (pv 0) pe_int (fun _ _ => rfl)) (pv 4) (fun _ _ => rfl)) pa_nil)) pe_int (nomark _)) (pss_cons (ps_set (i := 10) sc__law_duel.nd rfl (Or.inl rfl) (pe_f (ok__law_first T) hr (by decide) (by rfl) (pa_cons (pv 0) (pa_cons (pv 2) (pa_cons (pv 3) (pa_cons (pv 4) (pa_cons (pv 5) pa_nil)))))))
    (pss_cons (ps_set (i := 11) sc__law_duel.nd rfl (Or.inl rfl) (pe_f (ok__law_move T) hr (by decide) (by rfl) (pa_cons (pv 0) (pa_cons (pv 4) (pa_cons (pv 5) (pa_cons (pv 10) (pa_cons (pe_f (ok__law_second T) hr (by decide) (by rfl) (pa_cons (pv 0) (pa_cons (pv 1) (pa_cons (pv 2) (pa_cons (pv 3) (pa_cons (pv 4) (pa_cons (pv 5) pa_nil))))))) pa_nil)))))))
    (pss_cons (ps_set (i := 4) sc__law_duel.nd rfl (Or.inl rfl) (pe_ix ix_seq (pv 11) pe_int (fun _ _ => rfl)))
    (pss_cons (ps_set (i := 5) sc__law_duel.nd rfl (Or.inl rfl) (pe_ix ix_seq (pv 11) pe_int (fun _ _ => rfl)))
    (pss_cons (ps_set (i := 8) sc__law_duel.nd rfl (Or.inl rfl) (pe_op op_add (pv 8) pe_int))
    (pss_one (ps_set (i := 7) sc__law_duel.nd rfl (Or.inl rfl) (pe_op op_add (pv 7) (pe_callTy call_int1 (by rfl) (T.free (memOf 4 rfl)) b_int (pa_cons (pe_cmpR op_in_seq (pv 4) (pv 2) (by rfl)) pa_nil)))))))))) pss_nil)))
    (pss_cons (ps_if (pt_cmpR op_gt (pe_callB call_len_seq (by rfl) (T.free (memOf 0 rfl)) b_len (pa_cons (pe_ix ix_seq (pe_ix ix_seq (pv 0) pe_int (fun _ _ => rfl)) (pv 4) (fun _ _ => rfl)) pa_nil)) pe_int (nomark _)) (pss_one (ps_ret (pe_tup (pa_cons (pv 7) (pa_cons pe_str (pa_cons (pv 8) pa_nil)))))) pss_nil)
    (pss_cons (ps_if (pt_cmpR op_ge (pv 5) (pe_f (ok__law_due_at T) hr (by decide) (by rfl) (pa_cons (pe_ix ix_seq (pe_ix ix_seq (pv 0) pe_int (fun _ _ => rfl)) (pv 4) (fun _ _ => rfl)) (pa_cons (pv 1) pa_nil))) (nomark _)) (pss_one (ps_ret (pe_tup (pa_cons (pv 7) (pa_cons pe_str (pa_cons (pv 8) pa_nil)))))) pss_nil)
    (pss_one (ps_ret (pe_tup (pa_cons (pv 7) (pa_cons pe_str (pa_cons (pv 8) pa_nil)))))))))))
theorem ok__law_duel {P : Program} {w : World} {K : Frag} {mg : Str → Option Value} {base : Heap} (T : Txt w K mg) : GF P w K mg base "_law_duel" 4 (sp__law_duel K) := by
  have F := T.def_ (d := xf__law_duel) (memOf 94 rfl) rfl
  refine ⟨fnr_mk (k := 3) F sc__law_duel (fun _ _ _ _ _ _ us hl => match us, hl with | [_, _, _, _, _, _, _], _ => rfl) (fun vs H Q E h => len__law_duel h) (fun cdv A outer s H vs Q E hr h => ⟨t__law_duel K, d__law_duel T hr, pure__law_duel T h⟩), ?_, T.glo (memOf 68 rfl)⟩
  obtain ⟨fd, F⟩ := F
  exact F.kp
def sp__law_whole (K : Frag) : Sp := fun vs H Q _ => ∃ i, vs = [.int i] ∧ RetV (.bl true) H Q
/-! _law_whole -/
abbrev N__law_whole : List Str := ["_law_thing"]
abbrev s__law_whole : Stmt := top 80
theorem sc__law_whole : FnScope N__law_whole ["_law_thing"] (defScope s__law_whole) := ⟨rfl, rfl, rfl, by decide +kernel, rfl, by decide +kernel, by decide +kernel⟩
def t__law_whole (K : Frag) : TS := (tRet (tAndV (tCB (rIsi K) (tCons (tVar 0) (tCons (tC (.ty "int")) tNil))) (tNotV (tCB (rIsi K) (tCons (tVar 0) (tCons (tC (.ty "bool")) tNil))))))
section
variable {w : World} {K : Frag} {mg : Str → Option Value} {vs : List V} {H : Hp} {Q : VK} {E : XK}
theorem len__law_whole (h : sp__law_whole K vs H Q E) : vs.length = 1 := by obtain ⟨i, rfl, _⟩ := h; rfl
theorem pure__law_whole (T : Txt w K mg) (h : sp__law_whole K vs H Q E) : t__law_whole K (E1 Q) (start N__law_whole vs) H := by
  obtain ⟨i, rfl, k⟩ := h
  exact s_ret (ev_andV (ev_isiInt (ev_var rfl)) fun _ => ev_notV (ev_isiBool (ev_var rfl))) fun H1 e => k H1 e
end
theorem d__law_whole {P : Program} {w : World} {K : Frag} {mg : Str → Option Value} {base : Heap} (T : Txt w K mg) {f : Addr} {cdv : Value} {A : Around} {outer : List Env} {s : Shared} {H : Hp} {E : XK} (hr : Room 0 (A.deeper (envOfC "_law_whole" (defScope s__law_whole) s.heap.objs.size f cdv))) :
    PSs (cxOf CX0 P w K mg base N__law_whole "_law_whole" (defScope s__law_whole) f cdv A outer s H E).nox (defBody s__law_whole) (t__law_whole K) := by
  exact (pss_one (ps_ret (pe_and (pe_callB call_isi (by rfl) (T.free (memOf 5 rfl)) b_isinstance (pa_cons (pv 0) (pa_cons (pe_bltn (v := .ty "int") (by rfl) (T.free (memOf 4 rfl)) b_int rfl) pa_nil))) (pe_one (pe_not (pe_callB call_isi (by rfl) (T.free (memOf 5 rfl)) b_isinstance (pa_cons (pv 0) (pa_cons (pe_bltn (v := .ty "bool") (by rfl) (T.free (memOf 10 rfl)) b_bool rfl) pa_nil))))))))
theorem ok__law_whole {P : Program} {w : World} {K : Frag} {mg : Str → Option Value} {base : Heap} (T : Txt w K mg) : GF P w K mg base "_law_whole" 1 (sp__law_whole K) := by
  have F := T.def_ (d := xf__law_whole) (memOf 73 rfl) rfl
  refine ⟨fnr_mk (k := 0) F sc__law_whole (fun _ _ _ _ _ _ us hl => match us, hl with | [_], _ => rfl) (fun vs H Q E h => len__law_whole h) (fun cdv A outer s H vs Q E hr h => ⟨t__law_whole K, d__law_whole T hr, pure__law_whole T h⟩), ?_, T.glo (memOf 47 rfl)⟩
  obtain ⟨fd, F⟩ := F
  exact F.kp
theorem spv_law_whole {K : Frag} {H : Hp} {i : Int} : SpV (sp__law_whole K) [.int i] H (.bl true) := fun H1 _ Q q E => ⟨i, rfl, fun H2 e2 => q H2 e2⟩
theorem ev_eqT {K : Frag} {σ : L2.St} {H : Hp} {ta tb : TE} {p q : Addr} {l : List Int} (ha : Ev ta σ H (.ref p)) (hb : Ev tb σ H (.ref q)) (hp : SqT K H p (intV l)) (hq : SqT K H q (intV l)) : Ev (tOp (rEqD K) ta tb) σ H (.bl true) :=
  ev_op ha hb fun H1 e Q k => ⟨_, _, Dp.tup (ex_t e hp) (dpAll_ints l), Dp.tup (ex_t e hq) (dpAll_ints l), shaped_tup l, shaped_tup l, by
    have : PyData.eqv (.tuple (l.map .int)) (.tuple (l.map .int)) = true := by rw [PyData.eqv, eqvAll_ints]; exact decide_eq_true rfl
    rw [this]
    exact k H1 (Ex.refl _)⟩
def sp__law_pair (K : Frag) : Sp := fun vs H Q _ => ∃ p q b s, vs = [.ref p, .ref q] ∧ SqT K H p [.int b, .int s] ∧ SqT K H q [.int b, .int s] ∧ RetV (.bl true) H Q
/-! _law_pair -/
abbrev N__law_pair : List Str := ["_law_told", "_law_due_here"]
abbrev s__law_pair : Stmt := top 102
theorem sc__law_pair : FnScope N__law_pair ["_law_told", "_law_due_here"] (defScope s__law_pair) := ⟨rfl, rfl, rfl, by decide +kernel, rfl, by decide +kernel, by decide +kernel⟩
def t__law_pair (K : Frag) : TS := (tRet (tAndV (tCB (rIsi K) (tCons (tVar 0) (tCons (tC (.ty "tuple")) tNil))) (tAndV (tOp (rEqD K) (tVar 0) (tVar 1)) (tAndV (tFn (sp__law_whole K) (tCons (tOp (rIx K) (tVar 0) (tC (.int 0))) tNil)) (tFn (sp__law_whole K) (tCons (tOp (rIx K) (tVar 0) (tC (.int 1))) tNil))))))
section
variable {w : World} {K : Frag} {mg : Str → Option Value} {vs : List V} {H : Hp} {Q : VK} {E : XK}
theorem len__law_pair (h : sp__law_pair K vs H Q E) : vs.length = 2 := by obtain ⟨p, q, b, s, rfl, _⟩ := h; rfl
theorem pure__law_pair (T : Txt w K mg) (h : sp__law_pair K vs H Q E) : t__law_pair K (E1 Q) (start N__law_pair vs) H := by
  obtain ⟨p, q, b, s, rfl, hp, hq, k⟩ := h
  exact s_ret (ev_andV (a := true) (b := true && (true && true)) (ev_isiTup (ev_var rfl) hp) fun _ => ev_andV (a := true) (b := true && true) (ev_eqT (l := [b, s]) (ev_var rfl) (ev_var rfl) hp hq) fun _ => ev_andV (a := true) (b := true) (ev_fn (ea_cons (ev_ix (ev_var rfl) ev_c (.t hp) rfl) ea_nil) spv_law_whole) fun _ => ev_fn (ea_cons (ev_ix (ev_var rfl) ev_c (.t hp) rfl) ea_nil) spv_law_whole) fun H1 e => k H1 e
end
theorem d__law_pair {P : Program} {w : World} {K : Frag} {mg : Str → Option Value} {base : Heap} (T : Txt w K mg) {f : Addr} {cdv : Value} {A : Around} {outer : List Env} {s : Shared} {H : Hp} {E : XK} (hr : Room 1 (A.deeper (envOfC "_law_pair" (defScope s__law_pair) s.heap.objs.size f cdv))) :
    PSs (cxOf CX0 P w K mg base N__law_pair "_law_pair" (defScope s__law_pair) f cdv A outer s H E).nox (defBody s__law_pair) (t__law_pair K) := by
  exact (pss_one (ps_ret (pe_and (pe_callB call_isi (by rfl) (T.free (memOf 5 rfl)) b_isinstance (pa_cons (pv 0) (pa_cons (pe_bltn (v := .ty "tuple") (by rfl) (T.free (memOf 6 rfl)) b_tuple rfl) pa_nil))) (pe_and (pe_cmpR (op_eqD hr.units) (pv 0) (pv 1) (nomark _)) (pe_and (pe_f (ok__law_whole T) hr (by decide) (by rfl) (pa_cons (pe_ix ix_seq (pv 0) pe_int (fun _ _ => rfl)) pa_nil)) (pe_one (pe_f (ok__law_whole T) hr (by decide) (by rfl) (pa_cons (pe_ix ix_seq (pv 0) pe_int (fun _ _ => rfl)) pa_nil))))))))
theorem ok__law_pair {P : Program} {w : World} {K : Frag} {mg : Str → Option Value} {base : Heap} (T : Txt w K mg) : GF P w K mg base "_law_pair" 2 (sp__law_pair K) := by
  have F := T.def_ (d := xf__law_pair) (memOf 95 rfl) rfl
  refine ⟨fnr_mk (k := 1) F sc__law_pair (fun _ _ _ _ _ _ us hl => match us, hl with | [_, _], _ => rfl) (fun vs H Q E h => len__law_pair h) (fun cdv A outer s H vs Q E hr h => ⟨t__law_pair K, d__law_pair T hr, pure__law_pair T h⟩), ?_, T.glo (memOf 69 rfl)⟩
  obtain ⟨fd, F⟩ := F
  exact F.kp
/-- pair(x, y), both told -/
theorem ev_pairX {K : Frag} {σ : L2.St} {H : Hp} {ta tb : TE} {b s : Int} (ha : EvX ta σ H (fun y H' => ∃ p, y = .ref p ∧ SqT K H' p [.int b, .int s])) (hb : ∀ H1, Ex H H1 → EvX tb σ H1 (fun y H' => ∃ p, y = .ref p ∧ SqT K H' p [.int b, .int s])) : Ev (tFn (sp__law_pair K) (tCons ta (tCons tb tNil))) σ H (.bl true) := fun H1 e Q q =>
  ha H1 e _ fun x H2 e2 ⟨p, ex, hp⟩ => hb H2 (e.trans e2) H2 (Ex.refl _) _ fun y H3 e3 ⟨p', ey, hp'⟩ => ⟨p, p', b, s, by rw [ex, ey], ex_t e3 hp, hp', fun H4 e4 => q H4 ((e2.trans e3).trans e4)⟩
theorem spx_falls1 {K : Frag} {H : Hp} {q : Addr} {W : Wb} {C : Int → Bool} {k : Int} {X rk ct : Int → Int} {v a : Int} (h : PlQ K (g1 K) H q W C k X rk ct) (h0 : 0 ≤ v) (h1 : v < W.n) (h2 : 0 ≤ a) (h3 : a ≤ k) :
    SpX (sp_CallFirst_falls K) [.ref q, .int v, .int a] H (fun y H' => (a - X v < 0 ∧ y = .non) ∨ (¬ a - X v < 0 ∧ ∃ p, y = .ref p ∧ SqT K H' p [.int (k - (a - X v)), .int (rk v)])) :=
  fun H1 e Q qq E => ⟨q, W, C, k, X, rk, ct, v, a, rfl, h.mono e, h0, h1, h2, h3, fun c H2 e2 => qq _ H2 e2 (.inl ⟨c, rfl⟩), fun c p H2 e2 hp => qq _ H2 e2 (.inr ⟨c, p, rfl, hp⟩)⟩
theorem spx_falls2 {K : Frag} {H : Hp} {q : Addr} {W : Wb} {C : Int → Bool} {k : Int} {X rk ct : Int → Int} {v a : Int} (h : PlQ K (g2 K) H q W C k X rk ct) (h0 : 0 ≤ v) (h1 : v < W.n) (h2 : 0 ≤ a) (h3 : a ≤ k) :
    SpX (sp_CallSecond_falls K) [.ref q, .int v, .int a] H (fun y H' => (X v - 1 - a < 0 ∧ y = .non) ∨ (¬ X v - 1 - a < 0 ∧ ∃ p, y = .ref p ∧ SqT K H' p [.int (k - (X v - 1 - a)), .int (ct v)])) :=
  fun H1 e Q qq E => ⟨q, W, C, k, X, rk, ct, v, a, rfl, h.mono e, h0, h1, h2, h3, fun c H2 e2 => qq _ H2 e2 (.inl ⟨c, rfl⟩), fun c p H2 e2 hp => qq _ H2 e2 (.inr ⟨c, p, rfl, hp⟩)⟩
theorem evx_falls1 {K : Frag} {σ : L2.St} {H : Hp} {ta tb tc : TE} {q : Addr} {W : Wb} {C : Int → Bool} {k : Int} {X rk ct : Int → Int} {v a : Int} (ha : Ev ta σ H (.ref q)) (h : PlQ K (g1 K) H q W C k X rk ct) (hb : Ev tb σ H (.int v)) (hc : Ev tc σ H (.int a)) (h0 : 0 ≤ v) (h1 : v < W.n) (h2 : 0 ≤ a) (h3 : a ≤ k) :
    EvX (tMethR (g1 K) "falls" (sp_CallFirst_falls K) E0 ta (tCons tb (tCons tc tNil))) σ H (fun y H' => (a - X v < 0 ∧ y = .non) ∨ (¬ a - X v < 0 ∧ ∃ p, y = .ref p ∧ SqT K H' p [.int (k - (a - X v)), .int (rk v)])) := by
  obtain ⟨dx, r, p, B, hp⟩ := h
  exact evx_methR ha hp.at_ rfl (ea_cons hb (ea_cons hc ea_nil)) (spx_falls1 ⟨dx, r, p, B, hp⟩ h0 h1 h2 h3)
theorem evx_falls2 {K : Frag} {σ : L2.St} {H : Hp} {ta tb tc : TE} {q : Addr} {W : Wb} {C : Int → Bool} {k : Int} {X rk ct : Int → Int} {v a : Int} (ha : Ev ta σ H (.ref q)) (h : PlQ K (g2 K) H q W C k X rk ct) (hb : Ev tb σ H (.int v)) (hc : Ev tc σ H (.int a)) (h0 : 0 ≤ v) (h1 : v < W.n) (h2 : 0 ≤ a) (h3 : a ≤ k) :
    EvX (tMethR (g2 K) "falls" (sp_CallSecond_falls K) E0 ta (tCons tb (tCons tc tNil))) σ H (fun y H' => (X v - 1 - a < 0 ∧ y = .non) ∨ (¬ X v - 1 - a < 0 ∧ ∃ p, y = .ref p ∧ SqT K H' p [.int (k - (X v - 1 - a)), .int (ct v)])) := by
  obtain ⟨dx, r, p, B, hp⟩ := h
  exact evx_methR ha hp.at_ rfl (ea_cons hb (ea_cons hc ea_nil)) (spx_falls2 ⟨dx, r, p, B, hp⟩ h0 h1 h2 h3)
def sp__law_states (K : Frag) : Sp := fun vs H Q _ => ∃ pot lw L A k c C l pp r q1 q2 X rk ct o1 o2, vs = [.ref lw, .int k, .ref c, .ref pp, .ref o1, .ref o2] ∧ LawW K H pot lw L A ∧ CAt K H c (wSrt L) C l ∧ LParts K H pot pp r q1 q2 L.n X rk ct ∧ PlQ K (g1 K) H o1 (wSrt L) C k X rk ct ∧ PlQ K (g2 K) H o2 (wSrt L) C k X rk ct ∧ 0 ≤ k ∧ k ≤ 1000 ∧ RetV (.bl true) H Q
/-! _law_states -/
abbrev N__law_states : List Str := ["_law_web_here", "_law_k", "_law_calls_here", "_law_parts", "_law_one", "_law_two", "_law_stand", "_law_purse", "_law_spare", "_law_told", "_law_other"]
abbrev s__law_states : Stmt := top 103
theorem sc__law_states : FnScope N__law_states ["_law_web_here", "_law_k", "_law_calls_here", "_law_parts", "_law_one", "_law_two"] (defScope s__law_states) := ⟨rfl, rfl, rfl, by decide +kernel, rfl, by decide +kernel, by decide +kernel⟩
def t__law_states (K : Frag) : TS := (tSeq (tFor (iRng1 (tCons (tCB (rLenS K) (tCons (tOp (rIx K) (tVar 0) (tC (.int 0))) tNil)) tNil)) (gName 6) (tFor (iRng1 (tCons (tOp rAdd (tVar 1) (tC (.int 1))) tNil)) (gName 7) (tSeq (tAsg (tOp rSub (tVar 7) (tOp (rIx K) (tOp (rIx K) (tVar 3) (tC (.int 0))) (tVar 6))) (gName 8))
    (tSeq (tAsg (tMethR (g1 K) "falls" (sp_CallFirst_falls K) E0 (tVar 4) (tCons (tVar 6) (tCons (tVar 7) tNil))) (gName 9))
    (tSeq (tAsg (tMethR (g2 K) "falls" (sp_CallSecond_falls K) E0 (tVar 5) (tCons (tVar 6) (tCons (tVar 7) tNil))) (gName 10))
    (tSeq (tIfS (tTest (tOp rGe (tVar 8) (tC (.int 0)))) (tIfS (tOr (tTest (tOp rNotN (tVar 10) (tC .non))) (tNot (tB (tFn (sp__law_pair K) (tCons (tVar 9) (tCons (tTup (tCons (tOp rSub (tVar 1) (tVar 8)) (tCons (tOp (rIx K) (tOp (rIx K) (tVar 3) (tC (.int 1))) (tVar 6)) tNil))) tNil)))))) (tRet (tC (.bl false))) tNext) (tIfS (tOr (tTest (tOp rNotN (tVar 9) (tC .non))) (tNot (tB (tFn (sp__law_pair K) (tCons (tVar 10) (tCons (tTup (tCons (tOp rAdd (tOp rAdd (tVar 1) (tVar 8)) (tC (.int 1))) (tCons (tOp (rIx K) (tOp (rIx K) (tVar 3) (tC (.int 2))) (tVar 6)) tNil))) tNil)))))) (tRet (tC (.bl false))) tNext))
    (tIfS (tTest (tOp rGt (tCB (rLenS K) (tCons (tOp (rIx K) (tOp (rIx K) (tVar 0) (tC (.int 0))) (tVar 6)) tNil)) (tC (.int 0)))) (tSeq (tIfS (tNot (tB (tFn (sp__law_pair K) (tCons (tCallI (g1 K) (sp_CallFirst___call__ K) (tVar 4) (tCons (tVar 6) (tCons (tVar 7) tNil))) (tCons (tFn (sp__law_first K) (tCons (tVar 0) (tCons (tVar 2) (tCons (tVar 3) (tCons (tVar 6) (tCons (tVar 7) tNil)))))) tNil))))) (tRet (tC (.bl false))) tNext)
    (tIfS (tNot (tB (tFn (sp__law_pair K) (tCons (tCallI (g2 K) (sp_CallSecond___call__ K) (tVar 5) (tCons (tVar 6) (tCons (tVar 7) tNil))) (tCons (tFn (sp__law_second K) (tCons (tVar 0) (tCons (tVar 1) (tCons (tVar 2) (tCons (tVar 3) (tCons (tVar 6) (tCons (tVar 7) tNil))))))) tNil))))) (tRet (tC (.bl false))) tNext)) tNext)))))))
    (tRet (tC (.bl true))))
section
variable {w : World} {K : Frag} {mg : Str → Option Value} {vs : List V} {H : Hp} {Q : VK} {E : XK}
theorem len__law_states (h : sp__law_states K vs H Q E) : vs.length = 6 := by obtain ⟨pot, lw, L, A, k, c, C, l, pp, r, q1, q2, X, rk, ct, o1, o2, rfl, _⟩ := h; rfl
theorem pure__law_states (T : Txt w K mg) (h : sp__law_states K vs H Q E) : t__law_states K (E1 Q) (start N__law_states vs) H := by
  obtain ⟨pot, lw, L, A, k, c, C, l, pp, r, q1, q2, X, rk, ct, o1, o2, rfl, hw, hc, hp, hq1, hq2, hk, hk2, kk⟩ := h
  have hn := hw.n60
  refine q_forR1 (n := (L.n : Int)) (ea_cons (ev_Ln (ev_var rfl) hw) ea_nil) ⟨by omega, by omega⟩ (fun i σ' H' => Ex H H' ∧ ∃ v6 v7 v8 v9 v10, σ' = [some (.ref lw), some (.int k), some (.ref c), some (.ref pp), some (.ref o1), some (.ref o2), v6, v7, v8, v9, v10]) (fun H1 e1 => ⟨e1, _, _, _, _, _, rfl⟩) ?_ ?_
  · rintro v σ' H1 hv ⟨e1, v6, v7, v8, v9, v10, rfl⟩
    have h0 : (0 : Int) ≤ v := by omega
    refine s_forR1 (n := k + 1) (ea_cons (ev_I (ev_var rfl) ev_c) ea_nil) ⟨by omega, by omega⟩ (fun i σ' H' => Ex H H' ∧ ∃ v7 v8 v9 v10, σ' = [some (.ref lw), some (.int k), some (.ref c), some (.ref pp), some (.ref o1), some (.ref o2), some (.int (v : Int)), v7, v8, v9, v10]) (fun H2 e2 => ⟨e1.trans e2, _, _, _, _, rfl⟩) ?_ ?_
    · rintro a σ' H2 ha ⟨e2, v7, v8, v9, v10, rfl⟩
      have a0 : (0 : Int) ≤ a := by omega
      have a1 : (a : Int) ≤ k := by omega
      have hp2 := hp.mono e2
      refine q_asg (ev_I (ev_var rfl) (ev_ixR (ev_ix (p := pp) (v := .ref r) (ev_var rfl) ev_c (.l hp2.h.2) rfl) (ev_var rfl) (.l hp2.hr.2) h0 hv)) fun H3 e3 => ?_
      have e23 := e2.trans e3
      refine q_asgX (evx_falls1 (ev_var rfl) (hq1.mono e23) (ev_var rfl) (ev_var rfl) h0 hv a0 a1) fun y1 H4 e4 hy1 => ?_
      have e24 := e23.trans e4
      refine q_asgX (evx_falls2 (ev_var rfl) (hq2.mono e24) (ev_var rfl) (ev_var rfl) h0 hv a0 a1) fun y2 H5 e5 hy2 => ?_
      have e25 := e24.trans e5
      have hp5 := hp.mono e25
      have tail : ∀ H6, Ex H5 H6 → tIfS (tTest (tOp rGt (tCB (rLenS K) (tCons (tOp (rIx K) (tOp (rIx K) (tVar 0) (tC (.int 0))) (tVar 6)) tNil)) (tC (.int 0)))) (tSeq (tIfS (tNot (tB (tFn (sp__law_pair K) (tCons (tCallI (g1 K) (sp_CallFirst___call__ K) (tVar 4) (tCons (tVar 6) (tCons (tVar 7) tNil))) (tCons (tFn (sp__law_first K) (tCons (tVar 0) (tCons (tVar 2) (tCons (tVar 3) (tCons (tVar 6) (tCons (tVar 7) tNil)))))) tNil))))) (tRet (tC (.bl false))) tNext)
          (tIfS (tNot (tB (tFn (sp__law_pair K) (tCons (tCallI (g2 K) (sp_CallSecond___call__ K) (tVar 5) (tCons (tVar 6) (tCons (tVar 7) tNil))) (tCons (tFn (sp__law_second K) (tCons (tVar 0) (tCons (tVar 1) (tCons (tVar 2) (tCons (tVar 3) (tCons (tVar 6) (tCons (tVar 7) tNil))))))) tNil))))) (tRet (tC (.bl false))) tNext)) tNext
          { (E1 Q) with nx := fun σ' H' => Ex H H' ∧ ∃ v7 v8 v9 v10, σ' = [some (.ref lw), some (.int k), some (.ref c), some (.ref pp), some (.ref o1), some (.ref o2), some (.int (v : Int)), v7, v8, v9, v10], ct := fun σ' H' => Ex H H' ∧ ∃ v7 v8 v9 v10, σ' = [some (.ref lw), some (.int k), some (.ref c), some (.ref pp), some (.ref o1), some (.ref o2), some (.int (v : Int)), v7, v8, v9, v10], bk := fun σ' H' => Ex H H' ∧ ∃ v6 v7 v8 v9 v10, σ' = [some (.ref lw), some (.int k), some (.ref c), some (.ref pp), some (.ref o1), some (.ref o2), v6, v7, v8, v9, v10] }
          [some (.ref lw), some (.int k), some (.ref c), some (.ref pp), some (.ref o1), some (.ref o2), some (.int (v : Int)), some (.int (a : Int)), some (.int ((a : Int) - X v)), some y1, some y2] H6 := fun H6 e6 => by
        have e26 := e25.trans e6
        refine s_when (et_Lmov (ev_var rfl) (hw.mono e26) (ev_var rfl) h0 hv) (fun hm H7 e7 => ?_) fun hm H7 e7 => ⟨e26.trans e7, _, _, _, _, rfl⟩
        have e27 := e26.trans e7
        refine q_not (et_is (et_not (et_B (ev_pairX (evx_call1 (ev_var rfl) (hq1.mono e27) (ev_var rfl) (ev_var rfl) h0 hv hm a0 a1) fun H8 e8 => evx_fn (ea_cons (ev_var rfl) (ea_cons (ev_var rfl) (ea_cons (ev_var rfl) (ea_cons (ev_var rfl) (ea_cons (ev_var rfl) ea_nil))))) (spx_law_first (hw.mono (e27.trans e8)) (hc.mono (e27.trans e8)) (hp.mono (e27.trans e8)) h0 hv hm)))) rfl) fun H8 e8 => ?_
        have e28 := e27.trans e8
        exact s_not (et_is (et_not (et_B (ev_pairX (evx_call2 (ev_var rfl) (hq2.mono e28) (ev_var rfl) (ev_var rfl) h0 hv hm a0 a1) fun H9 e9 => evx_fn (ea_cons (ev_var rfl) (ea_cons (ev_var rfl) (ea_cons (ev_var rfl) (ea_cons (ev_var rfl) (ea_cons (ev_var rfl) (ea_cons (ev_var rfl) ea_nil)))))) (spx_law_second (hw.mono (e28.trans e9)) (hc.mono (e28.trans e9)) (hp.mono (e28.trans e9)) h0 hv hm)))) rfl) fun H9 e9 => ⟨e28.trans e9, _, _, _, _, rfl⟩
      refine q_if (et_test (ev_I (ev_var rfl) ev_c)) (fun hb H6 e6 => ?_) fun hb H6 e6 => ?_
      · have hge := of_decide_eq_true hb
        have hge : (0 : Int) ≤ (a : Int) - X v := hge
        have e26 := e25.trans e6
        rcases hy1 with ⟨z, _⟩ | ⟨_, p1, ey1, hp1⟩
        · omega
        rcases hy2 with ⟨_, ey2⟩ | ⟨z, _⟩
        · subst ey1
          subst ey2
          refine s_not (et_is (b := false) (et_or (a := false) (b := false) (et_is (et_test (ev_notN (ev_var rfl))) rfl) fun _ => et_is (et_not (et_B (ev_pairX (b := k - ((a : Int) - X v)) (s := rk v) (evx_varT rfl (ex_t (e5.trans e6) hp1)) fun H7 e7 => (EvU.toX (eu_tup (vs := [.int (k - ((a : Int) - X v)), .int (rk v)]) (ea_cons (ev_I (ev_var rfl) (ev_var rfl)) (ea_cons (ev_ixR (ev_ix (p := pp) (v := .ref q1) (ev_var rfl) ev_c (.l ((hp.mono e26).mono e7).h.2) rfl) (ev_var rfl) (.l ((hp.mono e26).mono e7).h1.2) h0 hv) ea_nil)) (by show 2 ≤ 100000; decide))).imp fun y H8 e8 ⟨p, ey, hh⟩ => ⟨p, ey, st_of hh⟩))) rfl) rfl) fun H7 e7 => ?_
          exact tail H7 (e6.trans e7)
        · omega
      · have hge := of_decide_eq_false hb
        have hge : ¬ (0 : Int) ≤ (a : Int) - X v := hge
        have e26 := e25.trans e6
        rcases hy1 with ⟨_, ey1⟩ | ⟨z, _⟩
        · rcases hy2 with ⟨z, _⟩ | ⟨_, p2, ey2, hp2⟩
          · omega
          subst ey1
          subst ey2
          have hkk : k - (X v - 1 - (a : Int)) = k + ((a : Int) - X v) + 1 := by omega
          rw [hkk] at hp2
          refine s_not (et_is (b := false) (et_or (a := false) (b := false) (et_is (et_test (ev_notN (ev_var rfl))) rfl) fun _ => et_is (et_not (et_B (ev_pairX (b := k + ((a : Int) - X v) + 1) (s := ct v) (evx_varT rfl (ex_t e6 hp2)) fun H7 e7 => (EvU.toX (eu_tup (vs := [.int (k + ((a : Int) - X v) + 1), .int (ct v)]) (ea_cons (ev_I (ev_I (ev_var rfl) (ev_var rfl)) ev_c) (ea_cons (ev_ixR (ev_ix (p := pp) (v := .ref q2) (ev_var rfl) ev_c (.l ((hp.mono e26).mono e7).h.2) rfl) (ev_var rfl) (.l ((hp.mono e26).mono e7).h2.2) h0 hv) ea_nil)) (by show 2 ≤ 100000; decide))).imp fun y H8 e8 ⟨p, ey, hh⟩ => ⟨p, ey, st_of hh⟩))) rfl) rfl) fun H7 e7 => ?_
          exact tail H7 (e6.trans e7)
        · omega
    · rintro σ' H2 ⟨e2, v7, v8, v9, v10, rfl⟩
      exact ⟨e2, _, _, _, _, _, rfl⟩
  · rintro σ' H1 ⟨e1, v6, v7, v8, v9, v10, rfl⟩
    exact s_ret ev_c fun H2 e2 => kk H2 (e1.trans e2)
end
theorem d__law_states {w : World} {K : Frag} {mg : Str → Option Value} {base : Heap} (T : Txt w K mg) {f : Addr} {cdv : Value} {A : Around} {outer : List Env} {s : Shared} {H : Hp} {E : XK} (hr : Room 6 (A.deeper (envOfC "_law_states" (defScope s__law_states) s.heap.objs.size f cdv))) :
    PSs (cxOf CX0 PP w K mg base N__law_states "_law_states" (defScope s__law_states) f cdv A outer s H E).nox (defBody s__law_states) (t__law_states K) := by
  exact (pss_cons (ps_for PassesOwn.never rfl (pi_range1 (by rfl) (T.free (memOf 1 rfl)) (pa_cons (pe_callB call_len_seq (by rfl) (T.free (memOf 0 rfl)) b_len (pa_cons (pe_ix ix_seq (pv 0) pe_int (fun _ _ => rfl)) pa_nil)) pa_nil)) (pg_name (i := 6) sc__law_states.nd rfl (Or.inl rfl)) (pss_one (ps_for PassesOwn.never rfl (pi_range1 (by rfl) (T.free (memOf 1 rfl)) (pa_cons (pe_op op_add (pv 1) pe_int) pa_nil)) (pg_name (i := 7) sc__law_states.nd rfl (Or.inl rfl)) (pss_cons (ps_set (i := 8) sc__law_states.nd rfl (Or.inl rfl) (pe_op op_sub (pv 7) (pe_ix ix_seq (pe_ix ix_seq (pv 3) pe_int (fun _ _ => rfl)) (pv 6) (fun _ _ => rfl))))
    (pss_cons (ps_set (i := 9) sc__law_states.nd rfl (Or.inl rfl) (pe_methN (pv 4) T.c1 (T.m1 (memOf 2 rfl)).1 (ok_CallFirst_falls T) hr (by decide) (pa_cons (pv 6) (pa_cons (pv 7) pa_nil))))
    (pss_cons (ps_set (i := 10) sc__law_states.nd rfl (Or.inl rfl) (pe_methN (pv 5) T.c2 (T.m2 (memOf 2 rfl)).1 (ok_CallSecond_falls T) hr (by decide) (pa_cons (pv 6) (pa_cons (pv 7) pa_nil))))
    (pss_cons (ps_if (pt_cmpR op_ge (pv 8) pe_int (nomark _)) (pss_one (ps_if (PW.pt (pw_or (pt_cmpR op_notN1 (pv 10) pe_non (nomark _)) (pw_or1 (pt_not (pt_val (pe_f (ok__law_pair T) hr (by decide) (by rfl) (pa_cons (pv 9) (pa_cons (pe_tup (pa_cons (pe_op op_sub (pv 1) (pv 8)) (pa_cons (pe_ix ix_seq (pe_ix ix_seq (pv 3) pe_int (fun _ _ => rfl)) (pv 6) (fun _ _ => rfl)) pa_nil))) pa_nil)))))))) (pss_one (ps_ret pe_bl)) pss_nil)) (pss_one (ps_if (PW.pt (pw_or (pt_cmpR op_notN1 (pv 9) pe_non (nomark _)) (pw_or1 (pt_not (pt_val (pe_f (ok__law_pair T) hr (by decide) (by rfl) (pa_cons (pv 10) (pa_cons (pe_tup (pa_cons (pe_op op_add (pe_op op_add (pv 1) (pv 8)) pe_int) (pa_cons (pe_ix ix_seq (pe_ix ix_seq (pv 3) pe_int (fun _ _ => rfl)) (pv 6) (fun _ _ => rfl)) pa_nil))) pa_nil)))))))) (pss_one (ps_ret pe_bl)) pss_nil)))
    (pss_one (ps_if (pt_cmpR op_gt (pe_callB call_len_seq (by rfl) (T.free (memOf 0 rfl)) b_len (pa_cons (pe_ix ix_seq (pe_ix ix_seq (pv 0) pe_int (fun _ _ => rfl)) (pv 6) (fun _ _ => rfl)) pa_nil)) pe_int (nomark _)) (pss_cons (ps_if (pt_not (pt_val (pe_f (ok__law_pair T) hr (by decide) (by rfl) (pa_cons (pe_callN (pv 4) (callO_of (T.m1 (memOf 0 rfl))) (ok_CallFirst___call__ T) hr (by decide) (pa_cons (pv 6) (pa_cons (pv 7) pa_nil))) (pa_cons (pe_f (ok__law_first T) hr (by decide) (by rfl) (pa_cons (pv 0) (pa_cons (pv 2) (pa_cons (pv 3) (pa_cons (pv 6) (pa_cons (pv 7) pa_nil)))))) pa_nil))))) (pss_one (ps_ret pe_bl)) pss_nil)
    (pss_one (ps_if (pt_not (pt_val (pe_f (ok__law_pair T) hr (by decide) (by rfl) (pa_cons (pe_callN (pv 5) (callO_of (T.m2 (memOf 0 rfl))) (ok_CallSecond___call__ T) hr (by decide) (pa_cons (pv 6) (pa_cons (pv 7) pa_nil))) (pa_cons (pe_f (ok__law_second T) hr (by decide) (by rfl) (pa_cons (pv 0) (pa_cons (pv 1) (pa_cons (pv 2) (pa_cons (pv 3) (pa_cons (pv 6) (pa_cons (pv 7) pa_nil))))))) pa_nil))))) (pss_one (ps_ret pe_bl)) pss_nil))) pss_nil)))))))))
    (pss_one (ps_ret pe_bl)))
theorem ok__law_states {w : World} {K : Frag} {mg : Str → Option Value} {base : Heap} (T : Txt w K mg) : GF PP w K mg base "_law_states" 7 (sp__law_states K) := by
  have F := T.def_ (d := xf__law_states) (memOf 96 rfl) rfl
  refine ⟨fnr_mk (k := 6) F sc__law_states (fun _ _ _ _ _ _ us hl => match us, hl with | [_, _, _, _, _, _], _ => rfl) (fun vs H Q E h => len__law_states h) (fun cdv A outer s H vs Q E hr h => ⟨t__law_states K, d__law_states T hr, pure__law_states T h⟩), ?_, T.glo (memOf 70 rfl)⟩
  obtain ⟨fd, F⟩ := F
  exact F.kp
end Pw
end

section
set_option maxRecDepth 100000
set_option maxHeartbeats 4000000
/-! The pot; what is drawn from it. -/
namespace Pw
open PySem PySem.Spec L2 Evl StX PwS SlX
open PyProof.Rows hiding St
/-- the pot as it stands -/
def Pot (H : Hp) (pot : Addr) : Prop := ∃ ns, H pot = some (.lst (intV ns))
theorem Pot.mono {H H' : Hp} {pot : Addr} (e : Ex H H') (h : Pot H pot) : Pot H' pot := let ⟨ns, h⟩ := h; ⟨ns, e _ _ h⟩
theorem Pot.ne {H : Hp} {pot p : Addr} (h : Pot H pot) (n : H p = none) : p ≠ pot := fun z => by
  obtain ⟨ns, h⟩ := h
  rw [z, h] at n
  cases n
/-- behind draws: all but the pot as before, the pot a list of ints -/
structure Dr (pot : Addr) (H H' : Hp) : Prop where
  ex : ExP pot H H'
  pot : Pot H' pot
theorem Dr.trans {pot : Addr} {H H1 H2 : Hp} (a : Dr pot H H1) (b : Dr pot H1 H2) : Dr pot H H2 := ⟨a.ex.trans b.ex, b.pot⟩
theorem Dr.refl {pot : Addr} {H : Hp} (h : Pot H pot) : Dr pot H H := ⟨.of (Ex.refl _), h⟩
theorem Dr.of {pot : Addr} {H H' : Hp} (h : Pot H pot) (e : Ex H H') : Dr pot H H' := ⟨.of e, h.mono e⟩
theorem Dr.then {pot : Addr} {H H1 H2 : Hp} (a : Dr pot H H1) (e : Ex H1 H2) : Dr pot H H2 := a.trans (.of a.pot e)
theorem ex_back {pot p : Addr} {H H' : Hp} (e : Dr pot H H') (h : H' p = none) : H p = none := by
  cases hp : H p with
  | none => rfl
  | some o =>
    by_cases z : p = pot
    · obtain ⟨ns, hn⟩ := e.pot
      rw [z, hn] at h
      cases h
    · rw [e.ex _ _ z hp] at h
      cases h
def sp__law_pot (K : Frag) : Sp := fun vs H Q _ => ∃ a ns, vs = [.ref a] ∧ SqL K H a (intV ns) ∧ ∀ p H', Ex H H' → Pot H' p → H p = none → Q (.ref p) H'
/-! _law_pot -/
abbrev N__law_pot : List Str := ["_law_script", "_law_pot_here", "_law_place", "_law_number", "_law_shift", "_law_turn", "_law_mixed"]
abbrev s__law_pot : Stmt := top 78
theorem sc__law_pot : FnScope N__law_pot ["_law_script"] (defScope s__law_pot) := ⟨rfl, rfl, rfl, by decide +kernel, rfl, by decide +kernel, by decide +kernel⟩
def t__law_pot (K : Frag) : TS := (tSeq (tAsg (tLst tNil) (gName 1))
    (tSeq (tFor (iRng1 (tCons (tCB rMin2' (tCons (tCB (rLenS K) (tCons (tVar 0) tNil)) (tCons (tC (.int 63)) tNil))) tNil)) (gName 2) (tSeq (tAsg (tCB rInt1 (tCons (tOp (rIx K) (tVar 0) (tVar 2)) tNil)) (gName 3))
    (tSeq (tAsg (tC (.int 11)) (gName 4))
    (tSeq (tIfS (tTest (tOp rLt (tVar 3) (tC (.int 0)))) (tSeq (tAsg (tOp rSub (tC (.int 0)) (tVar 3)) (gName 3))
    (tAsg (tC (.int 503)) (gName 4))) tNext)
    (tIfS (tTest (tOp rGe (tVar 3) (tOp rPow (tC (.int 10)) (tC (.int 18))))) (tFor (iRng1 (tCons (tC (.int 48)) tNil)) (gName 5) (tIfS (tTest (tOp rGt (tVar 3) (tC (.int 0)))) (tSeq (tDrop (tBM K "list" rAppend (tVar 1) (tCons (tOp rMod (tCB rInt1 (tCons (tVar 3) tNil)) (tC (.int 30))) tNil)))
    (tAsg (tOp rDiv (tVar 3) (tC (.int 30))) (gName 3))) tNext)) (tSeq (tAsg (tOp rMod (tCB rInt1 (tCons (tOp rAdd (tOp rAdd (tOp rMul (tVar 3) (tC (.int 7919))) (tOp rMul (tVar 2) (tC (.int 104729)))) (tVar 4)) tNil)) (tC (.int 998244353))) (gName 6))
    (tFor (iRng1 (tCons (tC (.int 5)) tNil)) (gName 5) (tSeq (tAsg (tOp rMod (tCB rInt1 (tCons (tOp rAdd (tOp rAdd (tOp rAdd (tOp rMul (tVar 6) (tVar 6)) (tOp rMul (tVar 5) (tC (.int 31337)))) (tOp rMul (tVar 2) (tC (.int 5)))) (tC (.int 3))) tNil)) (tC (.int 998244353))) (gName 6))
    (tDrop (tBM K "list" rAppend (tVar 1) (tCons (tVar 6) tNil)))))))))))
    (tSeq (tDrop (tBM0 K "list" rReverse (tVar 1)))
    (tRet (tVar 1)))))
section
variable {w : World} {K : Frag} {mg : Str → Option Value} {vs : List V} {H : Hp} {Q : VK} {E : XK}
theorem len__law_pot (h : sp__law_pot K vs H Q E) : vs.length = 1 := by obtain ⟨a, ns, rfl, _⟩ := h; rfl
theorem pure__law_pot (T : Txt w K mg) (h : sp__law_pot K vs H Q E) : t__law_pot K (E1 Q) (start N__law_pot vs) H := by
  obtain ⟨a, ns, rfl, hs, q⟩ := h
  refine q_asgL (el_lst (vs := []) ea_nil (by decide)) fun p H1 np e1 hp => ?_
  have hlen : Ev (tCB (rLenS K) (tCons (tVar 0) tNil)) [some (.ref a), some (.ref p), none, none, none, none, none] H1 (.int (ns.length : Int)) := by
    have := ev_len' (K := K) (ta := tVar 0) (σ := [some (.ref a), some (.ref p), none, none, none, none, none]) (ev_var rfl) (.l (ex_l e1 hs))
    rw [intV_len] at this
    exact this
  refine q_forR1 (n := min (ns.length : Int) 63) (ea_cons (ev_mn hlen ev_c) ea_nil) ⟨by omega, by omega⟩ (fun i σ' H' => Ex H H' ∧ (∃ l, l.length ≤ 48 * i ∧ H' p = some (.lst (intV l))) ∧ ∃ v2 v3 v4 v5 v6, σ' = [some (.ref a), some (.ref p), v2, v3, v4, v5, v6]) (fun H2 e2 => ⟨e1.trans e2, ⟨[], by decide, e2 _ _ hp⟩, _, _, _, _, _, rfl⟩) ?_ ?_
  · rintro i σ' H2 hi ⟨e2, ⟨l, hl, h2⟩, v2, v3, v4, v5, v6, rfl⟩
    have i0 : (0 : Int) ≤ i := by omega
    refine q_asg (ev_intI (ev_ixI (ev_var rfl) (ev_var rfl) (.l (ex_l e2 hs)) i0 (by omega))) fun H3 e3 => ?_
    refine q_asg ev_c fun H4 e4 => ?_
    have e34 := e3.trans e4
    have main : ∀ (x : Int) (y : Int) H5, Ex H4 H5 → (0 ≤ y ∧ y ≤ 1000) → tIfS (tTest (tOp rGe (tVar 3) (tOp rPow (tC (.int 10)) (tC (.int 18))))) (tFor (iRng1 (tCons (tC (.int 48)) tNil)) (gName 5) (tIfS (tTest (tOp rGt (tVar 3) (tC (.int 0)))) (tSeq (tDrop (tBM K "list" rAppend (tVar 1) (tCons (tOp rMod (tCB rInt1 (tCons (tVar 3) tNil)) (tC (.int 30))) tNil)))
    (tAsg (tOp rDiv (tVar 3) (tC (.int 30))) (gName 3))) tNext)) (tSeq (tAsg (tOp rMod (tCB rInt1 (tCons (tOp rAdd (tOp rAdd (tOp rMul (tVar 3) (tC (.int 7919))) (tOp rMul (tVar 2) (tC (.int 104729)))) (tVar 4)) tNil)) (tC (.int 998244353))) (gName 6))
    (tFor (iRng1 (tCons (tC (.int 5)) tNil)) (gName 5) (tSeq (tAsg (tOp rMod (tCB rInt1 (tCons (tOp rAdd (tOp rAdd (tOp rAdd (tOp rMul (tVar 6) (tVar 6)) (tOp rMul (tVar 5) (tC (.int 31337)))) (tOp rMul (tVar 2) (tC (.int 5)))) (tC (.int 3))) tNil)) (tC (.int 998244353))) (gName 6))
    (tDrop (tBM K "list" rAppend (tVar 1) (tCons (tVar 6) tNil))))))
      { (E1 Q) with nx := fun σ' H' => Ex H H' ∧ (∃ l, l.length ≤ 48 * (i + 1) ∧ H' p = some (.lst (intV l))) ∧ ∃ v2 v3 v4 v5 v6, σ' = [some (.ref a), some (.ref p), v2, v3, v4, v5, v6], ct := fun σ' H' => Ex H H' ∧ (∃ l, l.length ≤ 48 * (i + 1) ∧ H' p = some (.lst (intV l))) ∧ ∃ v2 v3 v4 v5 v6, σ' = [some (.ref a), some (.ref p), v2, v3, v4, v5, v6], bk := tSeq (tDrop (tBM0 K "list" rReverse (tVar 1))) (tRet (tVar 1)) (E1 Q) }
      [some (.ref a), some (.ref p), some (.int (i : Int)), some (.int x), some (.int y), v5, v6] H5 := fun x y H5 e5 hy => by
      have e25 := e2.trans (e34.trans e5)
      have h5 := (e34.trans e5) _ _ h2
      refine s_if (et_test (ev_I (ev_var rfl) (ev_Ic (i := 10) (j := 18) ev_c ev_c (by unfold CPow; decide)))) (fun hb H6 e6 => ?_) fun hb H6 e6 => ?_
      · refine s_forR1 (n := 48) (ea_cons ev_c ea_nil) ⟨by decide, by decide⟩ (fun j σ' H' => Ex H H' ∧ (∃ l, l.length ≤ 48 * i + j ∧ H' p = some (.lst (intV l))) ∧ ∃ x v5, σ' = [some (.ref a), some (.ref p), some (.int (i : Int)), some (.int x), some (.int y), v5, v6]) (fun H7 e7 => ⟨e25.trans (e6.trans e7), ⟨l, hl, (e6.trans e7) _ _ h5⟩, _, _, rfl⟩) ?_ ?_
        · rintro j σ' H7 hj ⟨e7, ⟨l, hl, h7⟩, x, v5, rfl⟩
          refine s_when (et_test (ev_I (ev_var rfl) ev_c)) (fun hb H8 e8 => ?_) fun hb H8 e8 => ⟨e7.trans e8, ⟨l, by omega, e8 _ _ h7⟩, _, _, rfl⟩
          refine q_app (l := p) (xs := intV l) (e8 _ _ h7) (ev_var rfl) (ev_Ic (ev_intI (ev_var rfl)) ev_c (by decide)) (by rw [intV_len]; omega) fun H9 e9 => ?_
          refine s_asg (ev_Ic (ev_var rfl) ev_c ⟨by decide, by decide⟩) fun H10 e10 => ⟨(Ex.mut (e7.trans (e8.trans e9)) np).trans e10, ⟨l ++ [x % 30], by rw [List.length_append]; show l.length + 1 ≤ _; omega, ?_⟩, _, _, rfl⟩
          refine (e10 _ _ upd_same).trans ?_
          unfold intV
          rw [List.map_append]
          rfl
        · rintro σ' H7 ⟨e7, ⟨l, hl, h7⟩, x, v5, rfl⟩
          exact ⟨e7, ⟨l, by rw [Nat.mul_add]; exact hl, h7⟩, _, _, _, _, _, rfl⟩
      · refine q_asg (ev_Ic (ev_intI (ev_I (ev_I (ev_Ic (ev_var rfl) ev_c (.inr ⟨by decide, by decide⟩)) (ev_Ic (ev_var rfl) ev_c (.inr ⟨by decide, by decide⟩))) (ev_var rfl))) ev_c (by decide)) fun H7 e7 => ?_
        have m0 : (0 : Int) ≤ (x * 7919 + (i : Int) * 104729 + y) % 998244353 ∧ (x * 7919 + (i : Int) * 104729 + y) % 998244353 < 998244353 := ⟨Int.emod_nonneg _ (by decide), Int.emod_lt_of_pos _ (by decide)⟩
        generalize (x * 7919 + (i : Int) * 104729 + y) % 998244353 = mx at m0
        refine s_forR1 (n := 5) (ea_cons ev_c ea_nil) ⟨by decide, by decide⟩ (fun j σ' H' => Ex H H' ∧ (∃ l, l.length ≤ 48 * i + j ∧ H' p = some (.lst (intV l))) ∧ ∃ m v5, (0 ≤ m ∧ m < 998244353) ∧ σ' = [some (.ref a), some (.ref p), some (.int (i : Int)), some (.int x), some (.int y), v5, some (.int m)]) (fun H8 e8 => ⟨e25.trans (e6.trans (e7.trans e8)), ⟨l, hl, (e6.trans (e7.trans e8)) _ _ h5⟩, mx, _, m0, rfl⟩) ?_ ?_
        · rintro j σ' H8 hj ⟨e8, ⟨l, hl, h8⟩, m, v5, hm, rfl⟩
          have hj0 : j < 5 := by omega
          refine q_asg (ev_Ic (ev_intI (ev_I (ev_I (ev_I (ev_Ic (ev_var rfl) (ev_var rfl) (.inl ⟨by omega, by omega⟩)) (ev_Ic (ev_var rfl) ev_c (.inr ⟨by decide, by decide⟩))) (ev_Ic (ev_var rfl) ev_c (.inr ⟨by decide, by decide⟩))) ev_c)) ev_c (by decide)) fun H9 e9 => ?_
          have m1 : (0 : Int) ≤ (m * m + (j : Int) * 31337 + (i : Int) * 5 + 3) % 998244353 ∧ (m * m + (j : Int) * 31337 + (i : Int) * 5 + 3) % 998244353 < 998244353 := ⟨Int.emod_nonneg _ (by decide), Int.emod_lt_of_pos _ (by decide)⟩
          generalize (m * m + (j : Int) * 31337 + (i : Int) * 5 + 3) % 998244353 = my at m1
          refine s_app (l := p) (xs := intV l) (e9 _ _ h8) (ev_var rfl) (ev_var rfl) (by rw [intV_len]; omega) fun H10 e10 => ⟨Ex.mut (e8.trans (e9.trans e10)) np, ⟨l ++ [my], by rw [List.length_append]; show l.length + 1 ≤ _; omega, ?_⟩, my, _, m1, rfl⟩
          rw [upd_same]
          unfold intV
          rw [List.map_append]
          rfl
        · rintro σ' H8 ⟨e8, ⟨l, hl, h8⟩, m, v5, hm, rfl⟩
          exact ⟨e8, ⟨l, by have : (5 : Int).toNat = 5 := rfl; omega, h8⟩, _, _, _, _, _, rfl⟩
    refine q_when (et_test (ev_I (ev_var rfl) ev_c)) (fun hb H5 e5 => ?_) fun hb H5 e5 => main _ _ H5 e5 (by decide)
    refine q_asg (ev_I ev_c (ev_var rfl)) fun H6 e6 => ?_
    exact s_asg ev_c fun H7 e7 => main _ _ H7 (e5.trans (e6.trans e7)) (by decide)
  · rintro σ' H2 ⟨e2, ⟨l, hl, h2⟩, v2, v3, v4, v5, v6, rfl⟩
    have rev : ∀ (tz : TS) (D : Ends) (σ : L2.St), σ[1]? = some (some (.ref p)) → tz D σ (upd H2 p (.lst (intV l).reverse)) → tSeq (tDrop (tBM0 K "list" rReverse (tVar 1))) tz D σ H2 := fun tz D σ hs hz => ⟨_, hs, .inl ⟨rfl, _, sq_of h2⟩, p, intV l, rfl, rfl, h2, hz⟩
    refine rev _ _ _ rfl (s_ret (ev_var rfl) fun H3 e3 => q p H3 ((Ex.mut e2 np).trans e3) ⟨l.reverse, ?_⟩ np)
    refine (e3 _ _ upd_same).trans ?_
    unfold intV
    rw [List.map_reverse]
end
theorem d__law_pot {P : Program} {w : World} {K : Frag} {mg : Str → Option Value} {base : Heap} (T : Txt w K mg) {f : Addr} {cdv : Value} {A : Around} {outer : List Env} {s : Shared} {H : Hp} {E : XK} (hr : Room 0 (A.deeper (envOfC "_law_pot" (defScope s__law_pot) s.heap.objs.size f cdv))) :
    PSs (cxOf CX0 P w K mg base N__law_pot "_law_pot" (defScope s__law_pot) f cdv A outer s H E).nox (defBody s__law_pot) (t__law_pot K) := by
  exact (pss_cons (ps_set (i := 1) sc__law_pot.nd rfl (Or.inl rfl) (pe_lst pa_nil))
    (pss_cons (ps_for PassesOwn.never rfl (pi_range1 (by rfl) (T.free (memOf 1 rfl)) (pa_cons (pe_callB (call_min2 rfl) (by rfl) (T.free (memOf 2 rfl)) b_min (pa_cons (pe_callB call_len_seq (by rfl) (T.free (memOf 0 rfl)) b_len (pa_cons (pv 0) pa_nil)) (pa_cons pe_int pa_nil))) pa_nil)) (pg_name (i := 2) sc__law_pot.nd rfl (Or.inl rfl)) (pss_cons (ps_set (i := 3) sc__law_pot.nd rfl (Or.inl rfl) (pe_callTy call_int1 (by rfl) (T.free (memOf 4 rfl)) b_int (pa_cons (pe_ix ix_seq (pv 0) (pv 2) (fun _ _ => rfl)) pa_nil)))
    (pss_cons (ps_set (i := 4) sc__law_pot.nd rfl (Or.inl rfl) pe_int)
    (pss_cons (ps_if (pt_cmpR op_lt (pv 3) pe_int (nomark _)) (pss_cons (ps_set (i := 3) sc__law_pot.nd rfl (Or.inl rfl) (pe_op op_sub pe_int (pv 3)))
    (pss_one (ps_set (i := 4) sc__law_pot.nd rfl (Or.inl rfl) pe_int))) pss_nil)
    (pss_one (ps_if (pt_cmpR op_ge (pv 3) (pe_op op_pow pe_int pe_int) (nomark _)) (pss_one (ps_for PassesOwn.never rfl (pi_range1 (by rfl) (T.free (memOf 1 rfl)) (pa_cons pe_int pa_nil)) (pg_name (i := 5) sc__law_pot.nd rfl (Or.inl rfl)) (pss_one (ps_if (pt_cmpR op_gt (pv 3) pe_int (nomark _)) (pss_cons (ps_expr (pe_bm PySem.F.plainAttrs_list PySem.F.slot_list_append PySem.F.type_list_append mt_append (pv 1) (pa_cons (pe_op op_mod (pe_callTy call_int1 (by rfl) (T.free (memOf 4 rfl)) b_int (pa_cons (pv 3) pa_nil)) pe_int) pa_nil)))
    (pss_one (ps_set (i := 3) sc__law_pot.nd rfl (Or.inl rfl) (pe_op op_fdiv (pv 3) pe_int)))) pss_nil)))) (pss_cons (ps_set (i := 6) sc__law_pot.nd rfl (Or.inl rfl) (pe_op op_mod (pe_callTy call_int1 (by rfl) (T.free (memOf 4 rfl)) b_int (pa_cons (pe_op op_add (pe_op op_add (pe_op op_mul (pv 3) pe_int) (pe_op op_mul (pv 2) pe_int)) (pv 4)) pa_nil)) pe_int))
    (pss_one (ps_for PassesOwn.never rfl (pi_range1 (by rfl) (T.free (memOf 1 rfl)) (pa_cons pe_int pa_nil)) (pg_name (i := 5) sc__law_pot.nd rfl (Or.inl rfl)) (pss_cons (ps_set (i := 6) sc__law_pot.nd rfl (Or.inl rfl) (pe_op op_mod (pe_callTy call_int1 (by rfl) (T.free (memOf 4 rfl)) b_int (pa_cons (pe_op op_add (pe_op op_add (pe_op op_add (pe_op op_mul (pv 6) (pv 6)) (pe_op op_mul (pv 5) pe_int)) (pe_op op_mul (pv 2) pe_int)) pe_int) pa_nil)) pe_int))
    (pss_one (ps_expr (pe_bm PySem.F.plainAttrs_list PySem.F.slot_list_append PySem.F.type_list_append mt_append (pv 1) (pa_cons (pv 6) pa_nil))))))))))))))
    (pss_cons (ps_expr (pe_bm0 PySem.F.plainAttrs_list PySem.F.slot_list_reverse PySem.F.type_list_reverse mt_reverse (pv 1)))
    (pss_one (ps_ret (pv 1))))))
theorem ok__law_pot {P : Program} {w : World} {K : Frag} {mg : Str → Option Value} {base : Heap} (T : Txt w K mg) : GF P w K mg base "_law_pot" 1 (sp__law_pot K) := by
  have F := T.def_ (d := xf__law_pot) (memOf 71 rfl) rfl
  refine ⟨fnr_mk (k := 0) F sc__law_pot (fun _ _ _ _ _ _ us hl => match us, hl with | [_], _ => rfl) (fun vs H Q E h => len__law_pot h) (fun cdv A outer s H vs Q E hr h => ⟨t__law_pot K, d__law_pot T hr, pure__law_pot T h⟩), ?_, T.glo (memOf 45 rfl)⟩
  obtain ⟨fd, F⟩ := F
  exact F.kp
theorem Dr.mut {pot p : Addr} {H H' : Hp} {o : HO} (h : Dr pot H H') (hp : Pot H pot) (n : H p = none) : Dr pot H (upd H' p o) := by
  have hne := hp.ne n
  refine ⟨fun a u ha hu => ?_, ?_⟩
  · rw [upd_ne (ne_of_none hu n)]
    exact h.ex a u ha hu
  · obtain ⟨ns, e⟩ := h.pot
    exact ⟨ns, by rw [upd_ne hne.symm]; exact e⟩
theorem Dr.keep {pot p : Addr} {H H' : Hp} {o : HO} (h : Dr pot H H') (n : p ≠ pot) (e : H p = some o) : H' p = some o := h.ex p o n e
theorem Dr.new {pot p : Addr} {H H0 H' : Hp} {o : HO} (h : Dr pot H H') (n : H0 p = none) (hp : Pot H0 pot) (e : H p = some o) : H' p = some o := h.ex p o (hp.ne n) e
theorem Dr.sqL {K : Frag} {pot p : Addr} {H H' : Hp} {xs : List V} (h : Dr pot H H') (n : p ≠ pot) (e : SqL K H p xs) : SqL K H' p xs := sqL_exp h.ex n e
def EvD (pot : Addr) (te : TE) (σ : L2.St) (H : Hp) (P : V → Hp → Prop) : Prop := ∀ Q : VK, (∀ v H2, Dr pot H H2 → P v H2 → Q v H2) → te σ H Q
section
variable {pot : Addr} {σ : L2.St} {H : Hp} {te ta tb : TE} {P : V → Hp → Prop} {tz tu tw : TS} {D : Ends} {t : TT}
theorem q_asgD {i : Nat} (h : EvD pot te σ H P) (k : ∀ v H1, Dr pot H H1 → P v H1 → tz D (σ.set i (some v)) H1) : tSeq (tAsg te (gName i)) tz D σ H := h _ fun v H1 e hp => k v H1 e hp
theorem s_asgD {i : Nat} (h : EvD pot te σ H P) (k : ∀ v H1, Dr pot H H1 → P v H1 → D.nx (σ.set i (some v)) H1) : tAsg te (gName i) D σ H := h _ fun v H1 e hp => k v H1 e hp
theorem s_retD (h : EvD pot te σ H P) (k : ∀ v H1, Dr pot H H1 → P v H1 → D.rt v H1) : tRet te D σ H := h _ fun v H1 e hp => k v H1 e hp
theorem EvX.toD (hp : Pot H pot) (h : EvX te σ H P) : EvD pot te σ H P := fun Q q => h H (Ex.refl _) Q fun v H2 e p => q v H2 (.of hp e) p
end
def sp__law_draw (K : Frag) : Sp := fun vs H Q _ => ∃ pot m, vs = [.ref pot, .int m] ∧ 0 < m ∧ Pot H pot ∧ ∀ d H', 0 ≤ d → d < m → Dr pot H H' → Q (.int d) H'
/-! _law_draw -/
abbrev N__law_draw : List Str := ["_law_pot_here", "_law_many"]
abbrev s__law_draw : Stmt := top 79
theorem sc__law_draw : FnScope N__law_draw ["_law_pot_here", "_law_many"] (defScope s__law_draw) := ⟨rfl, rfl, rfl, by decide +kernel, rfl, by decide +kernel, by decide +kernel⟩
def t__law_draw (K : Frag) : TS := (tSeq (tIfS (tTest (tOp rEq (tCB (rLenS K) (tCons (tVar 0) tNil)) (tC (.int 0)))) (tRet (tC (.int 0))) tNext)
    (tRet (tOp rMod (tCB rInt1 (tCons (tBM0 K "list" rPop (tVar 0)) tNil)) (tVar 1))))
section
variable {w : World} {K : Frag} {mg : Str → Option Value} {vs : List V} {H : Hp} {Q : VK} {E : XK}
theorem len__law_draw (h : sp__law_draw K vs H Q E) : vs.length = 2 := by obtain ⟨pot, m, rfl, _⟩ := h; rfl
theorem pure__law_draw (T : Txt w K mg) (h : sp__law_draw K vs H Q E) : t__law_draw K (E1 Q) (start N__law_draw vs) H := by
  obtain ⟨pot, m, rfl, hm, ⟨ns, hp⟩, q⟩ := h
  have hlen : Ev (tCB (rLenS K) (tCons (tVar 0) tNil)) (start N__law_draw [.ref pot, .int m]) H (.int (ns.length : Int)) := by
    have := ev_len' (K := K) (ta := tVar 0) (σ := start N__law_draw [.ref pot, .int m]) (ev_var rfl) (.lst hp)
    rw [intV_len] at this
    exact this
  refine q_when (et_test (ev_eqI hlen ev_c)) (fun hb H1 e1 => s_ret ev_c fun H2 e2 => q 0 H2 (by omega) hm (.of ⟨ns, hp⟩ (e1.trans e2))) fun hb H1 e1 => ?_
  have hne := of_decide_eq_false hb
  have h1 := e1 _ _ hp
  obtain ⟨y, hy⟩ : ∃ y, (intV ns)[(intV ns).length - 1]? = some (V.int y) := by
    rw [intV_len]
    unfold intV
    rw [List.getElem?_map]
    cases e : ns[ns.length - 1]? with
    | none => rw [List.getElem?_eq_none_iff] at e; omega
    | some y => exact ⟨y, rfl⟩
  refine ⟨.ref pot, rfl, .inl ⟨rfl, _, sq_of h1⟩, pot, intV ns, .int y, rfl, rfl, h1, hy, .inl ⟨y, rfl, .int m, rfl, y, m, rfl, rfl, hm, q _ _ (Int.emod_nonneg _ (by omega)) (Int.emod_lt_of_pos _ hm) ⟨(ExP.of e1).upd, ns.dropLast, ?_⟩⟩⟩
  rw [upd_same]
  unfold intV
  rw [List.map_dropLast]
end
theorem d__law_draw {P : Program} {w : World} {K : Frag} {mg : Str → Option Value} {base : Heap} (T : Txt w K mg) {f : Addr} {cdv : Value} {A : Around} {outer : List Env} {s : Shared} {H : Hp} {E : XK} (hr : Room 0 (A.deeper (envOfC "_law_draw" (defScope s__law_draw) s.heap.objs.size f cdv))) :
    PSs (cxOf CX0 P w K mg base N__law_draw "_law_draw" (defScope s__law_draw) f cdv A outer s H E).nox (defBody s__law_draw) (t__law_draw K) := by
  exact (pss_cons (ps_if (pt_cmpR op_eq (pe_callB call_len_seq (by rfl) (T.free (memOf 0 rfl)) b_len (pa_cons (pv 0) pa_nil)) pe_int (nomark _)) (pss_one (ps_ret pe_int)) pss_nil)
    (pss_one (ps_ret (pe_op op_mod (pe_callTy call_int1 (by rfl) (T.free (memOf 4 rfl)) b_int (pa_cons (pe_bm0 PySem.F.plainAttrs_list PySem.F.slot_list_pop PySem.F.type_list_pop mt_pop (pv 0)) pa_nil)) (pv 1)))))
theorem ok__law_draw {P : Program} {w : World} {K : Frag} {mg : Str → Option Value} {base : Heap} (T : Txt w K mg) : GF P w K mg base "_law_draw" 1 (sp__law_draw K) := by
  have F := T.def_ (d := xf__law_draw) (memOf 72 rfl) rfl
  refine ⟨fnr_mk (k := 0) F sc__law_draw (fun _ _ _ _ _ _ us hl => match us, hl with | [_, _], _ => rfl) (fun vs H Q E h => len__law_draw h) (fun cdv A outer s H vs Q E hr h => ⟨t__law_draw K, d__law_draw T hr, pure__law_draw T h⟩), ?_, T.glo (memOf 46 rfl)⟩
  obtain ⟨fd, F⟩ := F
  exact F.kp
section
variable {K : Frag} {pot : Addr} {σ : L2.St} {H : Hp} {te ta tb tl : TE} {P : V → Hp → Prop} {tz tu tw : TS} {D : Ends} {t : TT}
theorem evd_draw {m : Int} (ha : Ev ta σ H (.ref pot)) (hb : Ev tb σ H (.int m)) (hm : 0 < m) (hp : Pot H pot) : EvD pot (tFn (sp__law_draw K) (tCons ta (tCons tb tNil))) σ H (fun v _ => ∃ d, v = .int d ∧ 0 ≤ d ∧ d < m) := fun Q q =>
  ha H (Ex.refl _) _ fun H1 e1 => hb H1 e1 _ fun H2 e2 => ⟨pot, m, rfl, hm, hp.mono (e1.trans e2), fun d H3 d0 d1 e3 => q _ H3 ((Dr.of hp (e1.trans e2)).trans e3) ⟨d, rfl, d0, d1⟩⟩
/-- for i in range(draw(..)) -/
theorem q_forRD {m : Int} {j : Nat} (h : EvD pot te σ H (fun v _ => ∃ d, v = .int d ∧ 0 ≤ d ∧ d < m)) (hm : m ≤ 1000)
    (k : ∀ n H1, Dr pot H H1 → 0 ≤ n → n < m → ∃ Pv : Nat → L2.St → Hp → Prop, Pv 0 σ H1 ∧ (∀ (i : Nat) σ' H', (i : Int) < n → Pv i σ' H' → tu { D with nx := Pv (i + 1), ct := Pv (i + 1), bk := tz D } (σ'.set j (some (.int (i : Int)))) H') ∧ ∀ σ' H', Pv n.toNat σ' H' → tz D σ' H') : tSeq (tFor (iRng1 (tCons te tNil)) (gName j) tu) tz D σ H :=
  h _ fun v H1 e ⟨n, ev, n0, n1⟩ => by
    subst ev
    obtain ⟨Pv, h0, hs, hd⟩ := k n H1 e n0 n1
    refine ⟨n, rfl, by omega, by omega, for_range (lo := 0) (n := n.toNat) Pv h0 (fun i σ' H' hi p => ?_) hd⟩
    have e0 : (0 : Int) + (i : Int) = (i : Int) := Int.zero_add _
    show tu _ (σ'.set j (some (.int ((0 : Int) + (i : Int))))) H'
    rw [e0]
    exact hs i σ' H' (by omega) p
/-- [e for x in range(n)], e drawn -/
theorem evd_lr {ar : TA} {n : Nat} {j : Nat} {ws : List Nat} {Pr : Int → Prop} (hp : Pot H pot) (ha : EvA ar σ H [.int (n : Int)]) (hn : n ≤ 40000) (hw : ∀ x, wipe ((wipe σ ws).set j (some x)) ws = wipe σ ws)
    (he : ∀ (v : Int) H1, Pot H1 pot → EvD pot te ((wipe σ ws).set j (some (.int v))) H1 (fun y _ => ∃ z, y = .int z ∧ Pr z)) :
    EvD pot (tLc (iRng1 ar) (gName j) tYes te ws) σ H (fun y H' => ∃ p zs, y = .ref p ∧ H p = none ∧ H' p = some (.lst (intV zs)) ∧ zs.length = n ∧ ∀ z ∈ zs, Pr z) := fun Q q => ha H (Ex.refl _) _ fun H1 e1 => ⟨(n : Int), rfl, by omega, by omega, fun Dl hD =>
  lc_range (lo := 0) (n := (n : Int).toNat) (fun i H' => Dr pot H1 H' ∧ ∃ zs, zs.length = i ∧ (∀ z ∈ zs, Pr z) ∧ H' Dl = some (.lst (intV zs))) ⟨(Dr.refl (hp.mono e1)).mut (hp.mono e1) hD, [], rfl, (fun z hz => by cases hz), upd_same⟩ (fun i H' hi ⟨pc, zs, hl, hz, hd⟩ => by
    refine ⟨hw _, ?_⟩
    show te _ H' fun y H4 => ∃ acc, H4 Dl = some (.lst acc) ∧ acc.length < sizeLine ∧ (Dr pot H1 (upd H4 Dl (.lst (acc ++ [y]))) ∧ ∃ zs, zs.length = i + 1 ∧ (∀ z ∈ zs, Pr z) ∧ (upd H4 Dl (.lst (acc ++ [y]))) Dl = some (.lst (intV zs)))
    refine he _ H' pc.pot _ fun y H4 e4 ⟨z, ey, hz1⟩ => ?_
    subst ey
    have hd4 := e4.new hD (hp.mono e1) hd
    refine ⟨_, hd4, sz_lt (by rw [intV_len]; omega), (pc.trans e4).mut (hp.mono e1) hD, zs ++ [z], by rw [List.length_append, hl]; rfl, fun u hu => ?_, ?_⟩
    · rcases List.mem_append.mp hu with g | g
      · exact hz u g
      · rw [List.mem_singleton.mp g]; exact hz1
    · rw [upd_same]
      unfold intV
      rw [List.map_append]
      rfl) (fun H' ⟨pc, zs, hl, hz, hd⟩ => q _ H' ((Dr.of hp e1).trans pc) ⟨Dl, zs, rfl, fresh_back e1 hD, hd, by omega, hz⟩)⟩
/-- [e for x in xs], e drawn -/
theorem evd_lc {p : Addr} {xs : List V} {j : Nat} {ws : List Nat} {Pr : Int → Prop} (hp : Pot H pot) (ha : Ev tl σ H (.ref p)) (hs : LL K pot H p xs) (hn : xs.length ≤ 40000) (hw : ∀ x, wipe ((wipe σ ws).set j (some x)) ws = wipe σ ws)
    (he : ∀ v H1, Pot H1 pot → EvD pot te ((wipe σ ws).set j (some v)) H1 (fun y _ => ∃ z, y = .int z ∧ Pr z)) :
    EvD pot (tLc (iSeq K tl) (gName j) tYes te ws) σ H (fun y H' => ∃ p zs, y = .ref p ∧ H p = none ∧ H' p = some (.lst (intV zs)) ∧ zs.length = xs.length ∧ ∀ z ∈ zs, Pr z) := fun Q q => ha H (Ex.refl _) _ fun H1 e1 => ⟨p, rfl, .inl ⟨⟨_, ex_l e1 hs.2⟩, fun Dl hD =>
  lc_list (xs := xs) (fun i H' => Dr pot H1 H' ∧ ∃ zs, zs.length = i ∧ (∀ z ∈ zs, Pr z) ∧ H' Dl = some (.lst (intV zs))) ⟨(Dr.refl (hp.mono e1)).mut (hp.mono e1) hD, [], rfl, (fun z hz => by cases hz), upd_same⟩ (fun i H' _ pc => pc.1.sqL hs.1 (ex_l e1 hs.2)) (fun i x H' hi ⟨pc, zs, hl, hz, hd⟩ => by
    have hil := (List.getElem?_eq_some_iff.mp hi).1
    refine ⟨hw _, ?_⟩
    show te _ H' fun y H4 => ∃ acc, H4 Dl = some (.lst acc) ∧ acc.length < sizeLine ∧ (Dr pot H1 (upd H4 Dl (.lst (acc ++ [y]))) ∧ ∃ zs, zs.length = i + 1 ∧ (∀ z ∈ zs, Pr z) ∧ (upd H4 Dl (.lst (acc ++ [y]))) Dl = some (.lst (intV zs)))
    refine he _ H' pc.pot _ fun y H4 e4 ⟨z, ey, hz1⟩ => ?_
    subst ey
    have hd4 := e4.new hD (hp.mono e1) hd
    refine ⟨_, hd4, sz_lt (by rw [intV_len]; omega), (pc.trans e4).mut (hp.mono e1) hD, zs ++ [z], by rw [List.length_append, hl]; rfl, fun u hu => ?_, ?_⟩
    · rcases List.mem_append.mp hu with g | g
      · exact hz u g
      · rw [List.mem_singleton.mp g]; exact hz1
    · rw [upd_same]
      unfold intV
      rw [List.map_append]
      rfl) (fun H' ⟨pc, zs, hl, hz, hd⟩ => q _ H' ((Dr.of hp e1).trans pc) ⟨Dl, zs, rfl, fresh_back e1 hD, hd, hl, hz⟩)⟩⟩
/-- e op c, e drawn -/
theorem evd_I {g : Int → Int → V} {m c : Int} (h : EvD pot te σ H (fun v _ => ∃ d, v = .int d ∧ 0 ≤ d ∧ d < m)) : EvD pot (tOp (rI0 g) te (tC (.int c))) σ H (fun v _ => ∃ d, v = g d c ∧ 0 ≤ d ∧ d < m) := fun Q q => h _ fun v H1 e ⟨d, ev, d0, d1⟩ => ⟨d, c, ev, rfl, q _ H1 e ⟨d, rfl, d0, d1⟩⟩
theorem evd_I' {g : Int → Int → V} {m c : Int} (h : EvD pot te σ H (fun v _ => ∃ d, v = .int d ∧ 0 ≤ d ∧ d < m)) : EvD pot (tOp (rI0 g) (tC (.int c)) te) σ H (fun v _ => ∃ d, v = g c d ∧ 0 ≤ d ∧ d < m) := fun Q q => h _ fun v H1 e ⟨d, ev, d0, d1⟩ => ⟨c, d, rfl, ev, q _ H1 e ⟨d, rfl, d0, d1⟩⟩
theorem evd_tup1 {m : Int} {s : Str} (h : EvD pot te σ H (fun v _ => ∃ d, v = .int (1 + d) ∧ 0 ≤ d ∧ d < m)) : EvD pot (tTup (tCons (tC (.str s)) (tCons te tNil))) σ H (fun v H' => ∃ p d, v = .ref p ∧ SqT K H' p [.str s, .int (1 + d)] ∧ 0 ≤ d ∧ d < m) := fun Q q =>
  h _ fun v H1 e ⟨d, ev, d0, d1⟩ => ⟨by show 2 ≤ sizeLine; decide, fun p hp => q _ _ (e.then (Ex.new hp)) ⟨p, d, rfl, by rw [← ev]; exact st_of upd_same, d0, d1⟩⟩
end
/-! ### draw(..) == c as a test -/
def EtD (pot : Addr) (t : TT) (σ : L2.St) (H : Hp) : Prop := ∀ Q : Bool → Hp → Prop, (∀ b H2, Dr pot H H2 → Q b H2) → t σ H Q
section
variable {K : Frag} {pot : Addr} {σ : L2.St} {H : Hp} {te ta tb tl : TE} {P : V → Hp → Prop} {tz tu tw : TS} {D : Ends} {t u : TT}
theorem etd_eq {m c : Int} (h : EvD pot te σ H (fun v _ => ∃ d, v = .int d ∧ 0 ≤ d ∧ d < m)) : EtD pot (tTest (tOp rEq te (tC (.int c)))) σ H := fun Q q => h _ fun v H1 e ⟨d, ev, _, _⟩ => by
  subst ev
  exact ⟨rfl, _, rfl, q _ H1 e⟩
theorem etd_lt {m c : Int} (h : EvD pot te σ H (fun v _ => ∃ d, v = .int d ∧ 0 ≤ d ∧ d < m)) : EtD pot (tTest (tOp rLt te (tC (.int c)))) σ H := fun Q q => h _ fun v H1 e ⟨d, ev, _, _⟩ => ⟨d, c, ev, rfl, _, rfl, q _ H1 e⟩
theorem EvT.toD {b : Bool} (hp : Pot H pot) (h : EvT t σ H b) : EtD pot t σ H := fun Q q => h H (Ex.refl _) _ fun H2 e => q b H2 (.of hp e)
theorem etd_and {b : Bool} (hp : Pot H pot) (h1 : EvT t σ H b) (h2 : ∀ H1, Dr pot H H1 → EtD pot u σ H1) : EtD pot (tAnd t u) σ H := fun Q q => h1 H (Ex.refl _) _ fun H2 e2 => by
  cases b with
  | true => exact h2 H2 (.of hp e2) _ fun c H3 e3 => q c H3 ((Dr.of hp e2).trans e3)
  | false => exact q false H2 (.of hp e2)
theorem etd_or {b : Bool} (hp : Pot H pot) (h1 : EvT t σ H b) (h2 : ∀ H1, Dr pot H H1 → EtD pot u σ H1) : EtD pot (tOr t u) σ H := fun Q q => h1 H (Ex.refl _) _ fun H2 e2 => by
  cases b with
  | true => exact q true H2 (.of hp e2)
  | false => exact h2 H2 (.of hp e2) _ fun c H3 e3 => q c H3 ((Dr.of hp e2).trans e3)
theorem q_ifD (h : EtD pot t σ H) (h1 : ∀ H1, Dr pot H H1 → tu { D with nx := tz D } σ H1) (h2 : ∀ H1, Dr pot H H1 → tw { D with nx := tz D } σ H1) : tSeq (tIfS t tu tw) tz D σ H := h _ fun b H1 e => by
  cases b with
  | true => exact h1 H1 e
  | false => exact h2 H1 e
theorem s_ifD (h : EtD pot t σ H) (h1 : ∀ H1, Dr pot H H1 → tu D σ H1) (h2 : ∀ H1, Dr pot H H1 → tw D σ H1) : tIfS t tu tw D σ H := h _ fun b H1 e => by
  cases b with
  | true => exact h1 H1 e
  | false => exact h2 H1 e
end
/-! ### lots -/
structure LotOk (n : Int) (l : List Int) : Prop where
  ne : l ≠ []
  rng : ∀ x ∈ l, 0 ≤ x ∧ x < n
  len : l.length ≤ 60
def sp__law_lot (K : Frag) : Sp := fun vs H Q _ => ∃ pot n, vs = [.ref pot, .int n] ∧ 0 < n ∧ Pot H pot ∧ ∀ p H' l, H p = none → Dr pot H H' → H' p = some (.lst (intV l)) → LotOk n l → Q (.ref p) H'
/-! _law_lot -/
abbrev N__law_lot : List Str := ["_law_pot_here", "_law_size", "_law_lot_here", "_law_turn", "_law_step"]
abbrev s__law_lot : Stmt := top 81
theorem sc__law_lot : FnScope N__law_lot ["_law_pot_here", "_law_size"] (defScope s__law_lot) := ⟨rfl, rfl, rfl, by decide +kernel, rfl, by decide +kernel, by decide +kernel⟩
def t__law_lot (K : Frag) : TS := (tSeq (tAsg (tLst (tCons (tFn (sp__law_draw K) (tCons (tVar 0) (tCons (tVar 1) tNil))) tNil)) (gName 2))
    (tSeq (tFor (iRng1 (tCons (tFn (sp__law_draw K) (tCons (tVar 0) (tCons (tC (.int 3)) tNil))) tNil)) (gName 3) (tSeq (tAsg (tFn (sp__law_draw K) (tCons (tVar 0) (tCons (tVar 1) tNil))) (gName 4))
    (tIfS (tTest (tOp (rIn K true) (tVar 4) (tVar 2))) (tDrop (tBM K "list" rAppend (tVar 2) (tCons (tVar 4) tNil))) tNext)))
    (tRet (tVar 2))))
section
variable {w : World} {K : Frag} {mg : Str → Option Value} {vs : List V} {H : Hp} {Q : VK} {E : XK}
theorem len__law_lot (h : sp__law_lot K vs H Q E) : vs.length = 2 := by obtain ⟨pot, n, rfl, _⟩ := h; rfl
theorem pure__law_lot (T : Txt w K mg) (h : sp__law_lot K vs H Q E) : t__law_lot K (E1 Q) (start N__law_lot vs) H := by
  obtain ⟨pot, n, rfl, hn, hp, q⟩ := h
  have first : EvD pot (tLst (tCons (tFn (sp__law_draw K) (tCons (tVar 0) (tCons (tVar 1) tNil))) tNil)) (start N__law_lot [.ref pot, .int n]) H (fun y H' => ∃ p d, y = .ref p ∧ H p = none ∧ H' p = some (.lst (intV [d])) ∧ 0 ≤ d ∧ d < n) := fun Q2 q2 =>
    evd_draw (ev_var rfl) (ev_var rfl) hn hp _ fun v H1 e1 ⟨d, ev, d0, d1⟩ => ⟨by show 1 ≤ sizeLine; decide, fun l hl => q2 _ _ (e1.then (Ex.new hl)) ⟨l, d, rfl, ex_back e1 hl, by rw [ev]; exact upd_same, d0, d1⟩⟩
  refine q_asgD first fun y H1 e1 ⟨pl, d, ey, nl, hl, d0, d1⟩ => ?_
  subst ey
  refine q_forRD (m := 3) (evd_draw (ev_var rfl) ev_c (by decide) e1.pot) (by decide) fun m H2 e2 m0 m1 => ⟨fun i σ' H' => Dr pot H H' ∧ (∃ l, l.length ≤ 1 + i ∧ l ≠ [] ∧ (∀ x ∈ l, 0 ≤ x ∧ x < n) ∧ H' pl = some (.lst (intV l))) ∧ ∃ v3 v4, σ' = [some (.ref pot), some (.int n), some (.ref pl), v3, v4],
    ⟨e1.trans e2, ⟨[d], by show 1 ≤ 1; decide, (fun z => by cases z), fun x hx => (by rw [List.mem_singleton.mp hx]; exact ⟨d0, d1⟩), e2.new nl hp hl⟩, _, _, rfl⟩, ?_, ?_⟩
  · rintro i σ' H3 hi ⟨e3, ⟨l, l0, l1, l2, l3⟩, v3, v4, rfl⟩
    refine q_asgD (evd_draw (ev_var rfl) (ev_var rfl) hn e3.pot) fun v H4 e4 ⟨z, ev, z0, z1⟩ => ?_
    subst ev
    have l4 := e4.new nl hp l3
    refine s_when (et_test (ev_notin (ev_var rfl) (ev_var rfl) (.lst l4))) (fun hb H5 e5 => ?_) fun hb H5 e5 => ⟨(e3.trans e4).then e5, ⟨l, by omega, l1, l2, e5 _ _ l4⟩, _, _, rfl⟩
    refine s_app (l := pl) (xs := intV l) (e5 _ _ l4) (ev_var rfl) (ev_var rfl) (by rw [intV_len]; omega) fun H6 e6 => ⟨(((e3.trans e4).then e5).then e6).mut hp nl, ⟨l ++ [z], by rw [List.length_append]; show l.length + 1 ≤ _; omega, fun y => (by cases l <;> cases y), fun x hx => ?_, ?_⟩, _, _, rfl⟩
    · rcases List.mem_append.mp hx with g | g
      · exact l2 x g
      · rw [List.mem_singleton.mp g]; exact ⟨z0, z1⟩
    · rw [upd_same]
      unfold intV
      rw [List.map_append]
      rfl
  · rintro σ' H3 ⟨e3, ⟨l, l0, l1, l2, l3⟩, v3, v4, rfl⟩
    exact s_ret (ev_var rfl) fun H4 e4 => q pl H4 l nl (e3.then e4) (e4 _ _ l3) ⟨l1, l2, by omega⟩
end
theorem d__law_lot {P : Program} {w : World} {K : Frag} {mg : Str → Option Value} {base : Heap} (T : Txt w K mg) {f : Addr} {cdv : Value} {A : Around} {outer : List Env} {s : Shared} {H : Hp} {E : XK} (hr : Room 1 (A.deeper (envOfC "_law_lot" (defScope s__law_lot) s.heap.objs.size f cdv))) :
    PSs (cxOf CX0 P w K mg base N__law_lot "_law_lot" (defScope s__law_lot) f cdv A outer s H E).nox (defBody s__law_lot) (t__law_lot K) := by
  exact (pss_cons (ps_set (i := 2) sc__law_lot.nd rfl (Or.inl rfl) (pe_lst (pa_cons (pe_f (ok__law_draw T) hr (by decide) (by rfl) (pa_cons (pv 0) (pa_cons (pv 1) pa_nil))) pa_nil)))
    (pss_cons (ps_for PassesOwn.never rfl (pi_range1 (by rfl) (T.free (memOf 1 rfl)) (pa_cons (pe_f (ok__law_draw T) hr (by decide) (by rfl) (pa_cons (pv 0) (pa_cons pe_int pa_nil))) pa_nil)) (pg_name (i := 3) sc__law_lot.nd rfl (Or.inl rfl)) (pss_cons (ps_set (i := 4) sc__law_lot.nd rfl (Or.inl rfl) (pe_f (ok__law_draw T) hr (by decide) (by rfl) (pa_cons (pv 0) (pa_cons (pv 1) pa_nil))))
    (pss_one (ps_if (pt_cmpR op_notIn_seq (pv 4) (pv 2) (by rfl)) (pss_one (ps_expr (pe_bm PySem.F.plainAttrs_list PySem.F.slot_list_append PySem.F.type_list_append mt_append (pv 2) (pa_cons (pv 4) pa_nil)))) pss_nil))))
    (pss_one (ps_ret (pv 2)))))
theorem ok__law_lot {P : Program} {w : World} {K : Frag} {mg : Str → Option Value} {base : Heap} (T : Txt w K mg) : GF P w K mg base "_law_lot" 2 (sp__law_lot K) := by
  have F := T.def_ (d := xf__law_lot) (memOf 74 rfl) rfl
  refine ⟨fnr_mk (k := 1) F sc__law_lot (fun _ _ _ _ _ _ us hl => match us, hl with | [_, _], _ => rfl) (fun vs H Q E h => len__law_lot h) (fun cdv A outer s H vs Q E hr h => ⟨t__law_lot K, d__law_lot T hr, pure__law_lot T h⟩), ?_, T.glo (memOf 48 rfl)⟩
  obtain ⟨fd, F⟩ := F
  exact F.kp
def sp__law_due (K : Frag) : Sp := fun vs H Q _ => ∃ pot, vs = [.ref pot] ∧ Pot H pot ∧ ∀ v H' d, Dr pot H H' → DueV K H' d v → d.ok → dueX d ≤ 1000 → Q v H'
/-! _law_due -/
abbrev N__law_due : List Str := ["_law_pot_here", "_law_word"]
abbrev s__law_due : Stmt := top 82
theorem sc__law_due : FnScope N__law_due ["_law_pot_here"] (defScope s__law_due) := ⟨rfl, rfl, rfl, by decide +kernel, rfl, by decide +kernel, by decide +kernel⟩
def t__law_due (K : Frag) : TS := (tSeq (tAsg (tFn (sp__law_draw K) (tCons (tVar 0) (tCons (tC (.int 6)) tNil))) (gName 1))
    (tSeq (tIfS (tTest (tOp rLe (tVar 1) (tC (.int 2)))) (tRet (tTup (tCons (tC (.str "chips")) (tCons (tC (.int 0)) tNil)))) tNext)
    (tSeq (tIfS (tTest (tOp rEq (tVar 1) (tC (.int 3)))) (tRet (tTup (tCons (tC (.str "chips")) (tCons (tOp rAdd (tC (.int 1)) (tFn (sp__law_draw K) (tCons (tVar 0) (tCons (tC (.int 4)) tNil)))) tNil)))) tNext)
    (tSeq (tIfS (tTest (tOp rEq (tVar 1) (tC (.int 4)))) (tRet (tTup (tCons (tC (.str "less")) (tCons (tOp rAdd (tC (.int 1)) (tFn (sp__law_draw K) (tCons (tVar 0) (tCons (tC (.int 3)) tNil)))) tNil)))) tNext)
    (tRet (tC .non))))))
section
variable {w : World} {K : Frag} {mg : Str → Option Value} {vs : List V} {H : Hp} {Q : VK} {E : XK}
theorem len__law_due (h : sp__law_due K vs H Q E) : vs.length = 1 := by obtain ⟨pot, rfl, _⟩ := h; rfl
theorem pure__law_due (T : Txt w K mg) (h : sp__law_due K vs H Q E) : t__law_due K (E1 Q) (start N__law_due vs) H := by
  obtain ⟨pot, rfl, hp, q⟩ := h
  refine q_asgD (evd_draw (ev_var rfl) ev_c (by decide) hp) fun v H1 e1 ⟨d, ev, d0, d1⟩ => ?_
  subst ev
  refine q_when (et_test (ev_I (ev_var rfl) ev_c)) (fun hb H2 e2 => ?_) fun hb H2 e2 => ?_
  · refine s_retX (EvU.toX (eu_tup (vs := [.str "chips", .int 0]) (ea_cons ev_c (ea_cons ev_c ea_nil)) (by show 2 ≤ 100000; decide))) fun y H3 e3 ⟨p, ey, hpp⟩ => ?_
    exact q y H3 (.chips 0) ((e1.then e2).then e3) ⟨p, ey, st_of hpp⟩ (by show (0 : Int) ≤ 0; decide) (by show (0 : Int) ≤ 1000; decide)
  · refine q_when (et_test (ev_eqI (ev_var rfl) ev_c)) (fun hb H3 e3 => ?_) fun hb H3 e3 => ?_
    · have e13 := (e1.then e2).then e3
      refine s_retD (evd_tup1 (K := K) (m := 4) (evd_I' (g := fun i j => .int (i + j)) (evd_draw (ev_var rfl) ev_c (by decide) e13.pot))) fun y H4 e4 ⟨p, d, ey, hpp, d0, d1⟩ => ?_
      exact q y H4 (.chips (1 + d)) (e13.trans e4) ⟨p, ey, hpp⟩ (by show 0 ≤ 1 + d; omega) (by show 1 + d ≤ 1000; omega)
    · refine q_when (et_test (ev_eqI (ev_var rfl) ev_c)) (fun hb H4 e4 => ?_) fun hb H4 e4 => ?_
      · have e14 := ((e1.then e2).then e3).then e4
        refine s_retD (evd_tup1 (K := K) (m := 3) (evd_I' (g := fun i j => .int (i + j)) (evd_draw (ev_var rfl) ev_c (by decide) e14.pot))) fun y H5 e5 ⟨p, d, ey, hpp, d0, d1⟩ => ?_
        exact q y H5 (.less (1 + d)) (e14.trans e5) ⟨p, ey, hpp⟩ (by show 0 ≤ 1 + d; omega) (by show 1 + d ≤ 1000; omega)
      · exact s_ret ev_c fun H5 e5 => q .non H5 .no ((((e1.then e2).then e3).then e4).then e5) rfl trivial (by show (0 : Int) ≤ 1000; decide)
end
theorem d__law_due {P : Program} {w : World} {K : Frag} {mg : Str → Option Value} {base : Heap} (T : Txt w K mg) {f : Addr} {cdv : Value} {A : Around} {outer : List Env} {s : Shared} {H : Hp} {E : XK} (hr : Room 1 (A.deeper (envOfC "_law_due" (defScope s__law_due) s.heap.objs.size f cdv))) :
    PSs (cxOf CX0 P w K mg base N__law_due "_law_due" (defScope s__law_due) f cdv A outer s H E).nox (defBody s__law_due) (t__law_due K) := by
  exact (pss_cons (ps_set (i := 1) sc__law_due.nd rfl (Or.inl rfl) (pe_f (ok__law_draw T) hr (by decide) (by rfl) (pa_cons (pv 0) (pa_cons pe_int pa_nil))))
    (pss_cons (ps_if (pt_cmpR op_le (pv 1) pe_int (nomark _)) (pss_one (ps_ret (pe_tup (pa_cons pe_str (pa_cons pe_int pa_nil))))) pss_nil)
    (pss_cons (ps_if (pt_cmpR op_eq (pv 1) pe_int (nomark _)) (pss_one (ps_ret (pe_tup (pa_cons pe_str (pa_cons (pe_op op_add pe_int (pe_f (ok__law_draw T) hr (by decide) (by rfl) (pa_cons (pv 0) (pa_cons pe_int pa_nil)))) pa_nil))))) pss_nil)
    (pss_cons (ps_if (pt_cmpR op_eq (pv 1) pe_int (nomark _)) (pss_one (ps_ret (pe_tup (pa_cons pe_str (pa_cons (pe_op op_add pe_int (pe_f (ok__law_draw T) hr (by decide) (by rfl) (pa_cons (pv 0) (pa_cons pe_int pa_nil)))) pa_nil))))) pss_nil)
    (pss_one (ps_ret pe_non))))))
theorem ok__law_due {P : Program} {w : World} {K : Frag} {mg : Str → Option Value} {base : Heap} (T : Txt w K mg) : GF P w K mg base "_law_due" 2 (sp__law_due K) := by
  have F := T.def_ (d := xf__law_due) (memOf 75 rfl) rfl
  refine ⟨fnr_mk (k := 1) F sc__law_due (fun _ _ _ _ _ _ us hl => match us, hl with | [_], _ => rfl) (fun vs H Q E h => len__law_due h) (fun cdv A outer s H vs Q E hr h => ⟨t__law_due K, d__law_due T hr, pure__law_due T h⟩), ?_, T.glo (memOf 49 rfl)⟩
  obtain ⟨fd, F⟩ := F
  exact F.kp
def sp__law_marks (K : Frag) : Sp := fun vs H Q _ => ∃ pot n, vs = [.ref pot, .int (n : Nat)] ∧ n ≤ 60 ∧ Pot H pot ∧ ∀ p H' zs, H p = none → Dr pot H H' → H' p = some (.lst (intV zs)) → zs.length = n → (∀ z ∈ zs, z = 1 ∨ z = 2) → Q (.ref p) H'
/-! _law_marks -/
abbrev N__law_marks : List Str := ["_law_pot_here", "_law_size", "_law_style", "_law_stand"]
abbrev s__law_marks : Stmt := top 83
theorem sc__law_marks : FnScope N__law_marks ["_law_pot_here", "_law_size"] (defScope s__law_marks) := ⟨rfl, rfl, rfl, by decide +kernel, rfl, by decide +kernel, by decide +kernel⟩
def t__law_marks (K : Frag) : TS := (tSeq (tAsg (tFn (sp__law_draw K) (tCons (tVar 0) (tCons (tC (.int 4)) tNil))) (gName 2))
    (tSeq (tIfS (tTest (tOp rLe (tVar 2) (tC (.int 1)))) (tRet (tLc (iRng1 (tCons (tVar 1) tNil)) (gName 3) tYes (tOp rAdd (tC (.int 1)) (tVar 2)) [3])) tNext)
    (tRet (tLc (iRng1 (tCons (tVar 1) tNil)) (gName 3) tYes (tOp rAdd (tC (.int 1)) (tFn (sp__law_draw K) (tCons (tVar 0) (tCons (tC (.int 2)) tNil)))) [3]))))
section
variable {w : World} {K : Frag} {mg : Str → Option Value} {vs : List V} {H : Hp} {Q : VK} {E : XK}
theorem len__law_marks (h : sp__law_marks K vs H Q E) : vs.length = 2 := by obtain ⟨pot, n, rfl, _⟩ := h; rfl
theorem pure__law_marks (T : Txt w K mg) (h : sp__law_marks K vs H Q E) : t__law_marks K (E1 Q) (start N__law_marks vs) H := by
  obtain ⟨pot, n, rfl, hn, hp, q⟩ := h
  refine q_asgD (evd_draw (ev_var rfl) ev_c (by decide) hp) fun v H1 e1 ⟨d, ev, d0, d1⟩ => ?_
  subst ev
  refine q_when (et_test (ev_I (ev_var rfl) ev_c)) (fun hb H2 e2 => ?_) fun hb H2 e2 => ?_
  · have hd := of_decide_eq_true hb
    refine s_retL (el_lrR (n := n) (g := fun _ => 1 + d) (ea_cons (ev_var rfl) ea_nil) (by omega) (fun _ => rfl) (fun v H3 e3 _ _ => ev_I ev_c (ev_var rfl))) fun p H3 np e3 hpp => ?_
    refine q p H3 ((ran n).map fun _ => 1 + d) (ex_back (e1.then e2) np) ((e1.then e2).then e3) (by rw [hpp, rowV_int]) (by rw [List.length_map, ran_len]) fun z hz => ?_
    obtain ⟨_, _, rfl⟩ := List.mem_map.mp hz
    omega
  · have e12 := e1.then e2
    refine s_retD (evd_lr (n := n) (Pr := fun z => z = 1 ∨ z = 2) e12.pot (ea_cons (ev_var rfl) ea_nil) (by omega) (fun _ => rfl) fun v H3 hp3 => ?_) fun y H3 e3 ⟨p, zs, ey, np, h3, hl, hz⟩ => ?_
    · exact fun Q2 q2 => evd_I' (g := fun i j => .int (i + j)) (evd_draw (ev_var rfl) ev_c (by decide) hp3) Q2 fun v H4 e4 ⟨d, ev, d0, d1⟩ => q2 v H4 e4 ⟨1 + d, ev, by omega⟩
    · subst ey
      exact q p H3 zs (ex_back e12 np) (e12.trans e3) h3 hl hz
end
theorem d__law_marks {P : Program} {w : World} {K : Frag} {mg : Str → Option Value} {base : Heap} (T : Txt w K mg) {f : Addr} {cdv : Value} {A : Around} {outer : List Env} {s : Shared} {H : Hp} {E : XK} (hr : Room 1 (A.deeper (envOfC "_law_marks" (defScope s__law_marks) s.heap.objs.size f cdv))) :
    PSs (cxOf CX0 P w K mg base N__law_marks "_law_marks" (defScope s__law_marks) f cdv A outer s H E).nox (defBody s__law_marks) (t__law_marks K) := by
  exact (pss_cons (ps_set (i := 2) sc__law_marks.nd rfl (Or.inr rfl) (pe_f (ok__law_draw T) hr (by decide) (by rfl) (pa_cons (pv 0) (pa_cons pe_int pa_nil))))
    (pss_cons (ps_if (pt_cmpR op_le (pv 2) pe_int (nomark _)) (pss_one (ps_ret (pe_lc (own := [("_law_stand", 3)]) (g := gName 3) (tt := tYes) (te := (tOp rAdd (tC (.int 1)) (tVar 2))) rfl sc__law_marks.nd (pi_range1 (by rfl) (T.free (memOf 1 rfl)) (pa_cons (pv 1) pa_nil)) (blkOk_by (N := N__law_marks) (sc := defScope s__law_marks) (by decide +kernel)) (fun _ _ _ _ _ => pg_name (i := 3) sc__law_marks.nd rfl (Or.inl rfl)) (fun _ _ _ _ _ => pts_nil) (fun _ _ _ _ _ => (pe_op op_add pe_int (pv 2)))))) pss_nil)
    (pss_one (ps_ret (pe_lc (own := [("_law_stand", 3)]) (g := gName 3) (tt := tYes) (te := (tOp rAdd (tC (.int 1)) (tFn (sp__law_draw K) (tCons (tVar 0) (tCons (tC (.int 2)) tNil))))) rfl sc__law_marks.nd (pi_range1 (by rfl) (T.free (memOf 1 rfl)) (pa_cons (pv 1) pa_nil)) (blkOk_by (N := N__law_marks) (sc := defScope s__law_marks) (by decide +kernel)) (fun _ _ _ _ _ => pg_name (i := 3) sc__law_marks.nd rfl (Or.inl rfl)) (fun _ _ _ _ _ => pts_nil) (fun _ _ _ _ _ => (pe_op op_add pe_int (pe_f (ok__law_draw T) hr (by decide) (by rfl) (pa_cons (pv 0) (pa_cons pe_int pa_nil))))))))))
theorem ok__law_marks {P : Program} {w : World} {K : Frag} {mg : Str → Option Value} {base : Heap} (T : Txt w K mg) : GF P w K mg base "_law_marks" 2 (sp__law_marks K) := by
  have F := T.def_ (d := xf__law_marks) (memOf 76 rfl) rfl
  refine ⟨fnr_mk (k := 1) F sc__law_marks (fun _ _ _ _ _ _ us hl => match us, hl with | [_, _], _ => rfl) (fun vs H Q E h => len__law_marks h) (fun cdv A outer s H vs Q E hr h => ⟨t__law_marks K, d__law_marks T hr, pure__law_marks T h⟩), ?_, T.glo (memOf 50 rfl)⟩
  obtain ⟨fd, F⟩ := F
  exact F.kp
end Pw
end

section
set_option maxRecDepth 100000
set_option maxHeartbeats 4000000
/-! The law's web. -/
namespace Pw
open PySem PySem.Spec L2 Evl StX PwS SlX
open PyProof.Rows hiding St
/-- a list of lists that avoid av -/
def NL (av : List Addr) (H : Hp) (p : Addr) (m : Nat) (G : Int → List Int) : Prop := ∃ ys : List V, H p = some (.lst ys) ∧ ys.length = m ∧ ∀ j : Nat, j < m → ∃ q, ys[j]? = some (.ref q) ∧ q ∉ av ∧ H q = some (.lst (intV (G j)))
theorem NL.mono {av : List Addr} {H H' : Hp} {p : Addr} {m : Nat} {G : Int → List Int} (e : Ex H H') (h : NL av H p m G) : NL av H' p m G := by
  obtain ⟨ys, h1, h2, h3⟩ := h
  exact ⟨ys, e _ _ h1, h2, fun j hj => let ⟨q, a, b, c⟩ := h3 j hj; ⟨q, a, b, e _ _ c⟩⟩
theorem NL.dr {av : List Addr} {H H' : Hp} {p pot : Addr} {m : Nat} {G : Int → List Int} (e : Dr pot H H') (hp : p ≠ pot) (ha : pot ∈ av) (h : NL av H p m G) : NL av H' p m G := by
  obtain ⟨ys, h1, h2, h3⟩ := h
  exact ⟨ys, e.keep hp h1, h2, fun j hj => let ⟨q, a, b, c⟩ := h3 j hj; ⟨q, a, b, e.keep (fun z => b (by rw [z]; exact ha)) c⟩⟩
theorem NL.other {av : List Addr} {H : Hp} {p p2 : Addr} {o : HO} {m : Nat} {G : Int → List Int} (hp : p ≠ p2) (ha : p2 ∈ av) (h : NL av H p m G) : NL av (upd H p2 o) p m G := by
  obtain ⟨ys, h1, h2, h3⟩ := h
  exact ⟨ys, by rw [upd_ne hp]; exact h1, h2, fun j hj => let ⟨q, a, b, c⟩ := h3 j hj; ⟨q, a, b, by rw [upd_ne fun z => b (by rw [z]; exact ha)]; exact c⟩⟩
def setG (G : Int → List Int) (m : Nat) (l : List Int) : Int → List Int := fun v => if v = m then l else G v
theorem NL.push {av : List Addr} {H : Hp} {p q : Addr} {m : Nat} {G : Int → List Int} {l : List Int} (hp : p ∈ av) (hq : q ∉ av) (h : NL av H p m G) (hl : H q = some (.lst (intV l))) : ∃ ys, H p = some (.lst ys) ∧ ys.length = m ∧ NL av (upd H p (.lst (ys ++ [.ref q]))) p (m + 1) (setG G m l) := by
  obtain ⟨ys, h1, h2, h3⟩ := h
  refine ⟨ys, h1, h2, ys ++ [.ref q], upd_same, by rw [List.length_append, h2]; rfl, fun j hj => ?_⟩
  by_cases e : j = m
  · subst e
    refine ⟨q, by rw [List.getElem?_append_right (by omega), h2]; simp, hq, ?_⟩
    rw [upd_ne fun z => hq (by rw [z]; exact hp)]
    unfold setG
    rw [if_pos rfl]
    exact hl
  · obtain ⟨q', a, b, c⟩ := h3 j (by omega)
    refine ⟨q', by rw [List.getElem?_append_left (by omega)]; exact a, b, ?_⟩
    rw [upd_ne fun z => b (by rw [z]; exact hp)]
    unfold setG
    rw [if_neg (by omega)]
    exact c
theorem NL.sq {K : Frag} {av : List Addr} {H : Hp} {p : Addr} {m : Nat} {G : Int → List Int} (h : NL av H p m G) : ∃ g : Int → Addr, SqL K H p ((ran m).map fun v => V.ref (g v)) ∧ ∀ v : Int, 0 ≤ v → v < m → g v ∉ av ∧ SqL K H (g v) (intV (G v)) := by
  obtain ⟨ys, h1, h2, h3⟩ := h
  have key : ∀ v : Int, 0 ≤ v → v < m → ∃ q, ys.getD v.toNat .non = .ref q ∧ q ∉ av ∧ H q = some (.lst (intV (G v))) := fun v h0 h1' => by
    obtain ⟨q, a, b, c⟩ := h3 v.toNat (by omega)
    rw [Int.toNat_of_nonneg h0] at c
    exact ⟨q, by rw [List.getD_eq_getElem?_getD, a]; rfl, b, c⟩
  refine ⟨fun v => match ys.getD v.toNat .non with | .ref q => q | _ => 0, ?_, fun v h0 h1' => ?_⟩
  · have : ((ran m).map fun v => V.ref (match ys.getD v.toNat .non with | .ref q => q | _ => 0)) = ys := by
      rw [ys_ran h2]
      refine List.map_congr_left fun v hv => ?_
      obtain ⟨q, e, _⟩ := key v (mem_ran.mp hv).1 (mem_ran.mp hv).2
      rw [← ys_ran h2, e]
    rw [this]
    exact sq_of h1
  · obtain ⟨q, e, b, c⟩ := key v h0 h1'
    show (match ys.getD v.toNat .non with | .ref q => q | _ => 0) ∉ av ∧ SqL K H (match ys.getD v.toNat .non with | .ref q => q | _ => 0) _
    rw [e]
    exact ⟨b, sq_of c⟩
theorem NL.congr {av : List Addr} {H : Hp} {p : Addr} {m : Nat} {G G' : Int → List Int} (h : NL av H p m G) (e : ∀ v : Int, 0 ≤ v → v < m → G v = G' v) : NL av H p m G' := by
  obtain ⟨ys, h1, h2, h3⟩ := h
  exact ⟨ys, h1, h2, fun j hj => let ⟨q, a, b, c⟩ := h3 j hj; ⟨q, a, b, by rw [← e j (by omega) (by omega)]; exact c⟩⟩
/-- [list(x) for x in xs] -/
theorem el_copy {K : Frag} {σ : L2.St} {H : Hp} {tl : TE} {p : Addr} {n : Nat} {g : Int → Addr} {G : Int → List Int} {j : Nat} {ws : List Nat} {av : List Addr} (ha : Ev tl σ H (.ref p)) (hs : SqL K H p ((ran n).map fun v => V.ref (g v))) (hg : ∀ v : Int, 0 ≤ v → v < n → SqL K H (g v) (intV (G v))) (hn : n ≤ 60)
    (hw : ∀ x, wipe ((wipe σ ws).set j (some x)) ws = wipe σ ws) (hj : ∀ x : V, ((wipe σ ws).set j (some x))[j]? = some (some x)) (hav : ∀ a ∈ av, ∃ o, H a = some o) :
    EvX (tLc (iSeq K tl) (gName j) tYes (tCB (rListS K) (tCons (tVar j) tNil)) ws) σ H (fun y H' => ∃ p2, y = .ref p2 ∧ H p2 = none ∧ NL (p2 :: av) H' p2 n G) := fun H1 e1 Q q => ha H1 e1 _ fun H2 e2 => ⟨p, rfl, .inl ⟨⟨_, ex_l (e1.trans e2) hs⟩, fun Dl hD =>
  lc_list (xs := (ran n).map fun v => V.ref (g v)) (fun i H' => Ex H2 H' ∧ NL (Dl :: av) H' Dl i G) ⟨Ex.new hD, [], upd_same, rfl, fun j hj => absurd hj (Nat.not_lt_zero _)⟩ (fun i H' _ pc => ex_l ((e1.trans e2).trans pc.1) hs) (fun i x H' hi ⟨ee, pc⟩ => by
    have hil : i < n := by
      have := (List.getElem?_eq_some_iff.mp hi).1
      rw [List.length_map, ran_len] at this
      exact this
    rw [List.getElem?_map, ran_get hil] at hi
    have ex : V.ref (g (i : Int)) = x := Option.some.inj hi
    subst ex
    refine ⟨hw _, ?_⟩
    show tCB (rListS K) (tCons (tVar j) tNil) _ H' fun y H4 => ∃ acc, H4 Dl = some (.lst acc) ∧ acc.length < sizeLine ∧ (Ex H2 (upd H4 Dl (.lst (acc ++ [y]))) ∧ NL (Dl :: av) (upd H4 Dl (.lst (acc ++ [y]))) Dl (i + 1) G)
    have e02 := (e1.trans e2).trans ee
    refine el_listA (ev_var (hj _)) (.l (ex_l e02 (hg i (by omega) (by omega)))) H' (Ex.refl _) _ fun q H4 nq e4 hq => ?_
    have hDl : ∃ o, H' Dl = some o := let ⟨ys, h1, _⟩ := pc; ⟨_, h1⟩
    have hqn : q ∉ Dl :: av := fun z => by
      rcases List.mem_cons.mp z with z | z
      · obtain ⟨o, h⟩ := hDl
        rw [← z, nq] at h
        cases h
      · obtain ⟨o, h⟩ := hav q z
        rw [e02 _ _ h] at nq
        cases nq
    obtain ⟨ys, y1, y2, y3⟩ := (pc.mono e4).push (List.mem_cons_self) hqn hq
    refine ⟨ys, y1, sz_lt (by omega), Ex.mut (ee.trans e4) hD, y3.congr fun v _ _ => ?_⟩
    unfold setG
    split
    · rename_i z
      rw [z]
    · rfl) (fun H' ⟨ee, pc⟩ => by
    rw [List.length_map, ran_len] at pc
    exact q _ H' (e2.trans ee) ⟨Dl, rfl, fresh_back (e1.trans e2) hD, pc⟩)⟩⟩
def pathF (n : Nat) (v : Int) : List Int := if v < 2 then [] else [if v = 2 then 0 else v - 1, if v = n - 1 then 1 else v + 1]
def sp__law_path (K : Frag) : Sp := fun vs H Q _ => ∃ n av, vs = [.int (n : Nat)] ∧ 2 ≤ n ∧ n ≤ 60 ∧ (∀ a ∈ av, ∃ o, H a = some o) ∧ ∀ p H', H p = none → Ex H H' → NL (p :: av) H' p n (pathF n) → Q (.ref p) H'
/-! _law_path -/
abbrev N__law_path : List Str := ["_law_size", "_law_lots", "_law_stand", "_law_low_here", "_law_high_here"]
abbrev s__law_path : Stmt := top 84
theorem sc__law_path : FnScope N__law_path ["_law_size"] (defScope s__law_path) := ⟨rfl, rfl, rfl, by decide +kernel, rfl, by decide +kernel, by decide +kernel⟩
def t__law_path (K : Frag) : TS := (tSeq (tAsg (tLst (tCons (tLst tNil) (tCons (tLst tNil) tNil))) (gName 1))
    (tSeq (tFor (iRng2 (tCons (tC (.int 2)) (tCons (tVar 0) tNil))) (gName 2) (tSeq (tAsg (tOp rSub (tVar 2) (tC (.int 1))) (gName 3))
    (tSeq (tIfS (tTest (tOp rEq (tVar 2) (tC (.int 2)))) (tAsg (tC (.int 0)) (gName 3)) tNext)
    (tSeq (tAsg (tOp rAdd (tVar 2) (tC (.int 1))) (gName 4))
    (tSeq (tIfS (tTest (tOp rEq (tVar 2) (tOp rSub (tVar 0) (tC (.int 1))))) (tAsg (tC (.int 1)) (gName 4)) tNext)
    (tDrop (tBM K "list" rAppend (tVar 1) (tCons (tLst (tCons (tVar 3) (tCons (tVar 4) tNil))) tNil))))))))
    (tRet (tVar 1))))
section
variable {w : World} {K : Frag} {mg : Str → Option Value} {vs : List V} {H : Hp} {Q : VK} {E : XK}
theorem len__law_path (h : sp__law_path K vs H Q E) : vs.length = 1 := by obtain ⟨n, av, rfl, _⟩ := h; rfl
theorem pure__law_path (T : Txt w K mg) (h : sp__law_path K vs H Q E) : t__law_path K (E1 Q) (start N__law_path vs) H := by
  obtain ⟨n, av, rfl, hn, hn2, hav, q⟩ := h
  have first : EvX (tLst (tCons (tLst tNil) (tCons (tLst tNil) tNil))) (start N__law_path [.int (n : Int)]) H (fun y H' => ∃ p, y = .ref p ∧ H p = none ∧ NL (p :: av) H' p 2 (pathF n)) := fun H1 e1 Q q => ⟨by show 0 ≤ sizeLine; decide, fun a ha => ⟨by show 0 ≤ sizeLine; decide, fun b hb => ⟨by show 2 ≤ sizeLine; decide, fun p hp => by
    have na : H1 a = none := ha
    have hb' : (upd H1 a (.lst [])) b = none := hb
    have hp' : (upd (upd H1 a (.lst [])) b (.lst [])) p = none := hp
    have hba : b ≠ a := fun z => by rw [z, upd_same] at hb'; cases hb'
    have hpb : p ≠ b := fun z => by rw [z, upd_same] at hp'; cases hp'
    rw [upd_ne hpb] at hp'
    have hpa : p ≠ a := fun z => by rw [z, upd_same] at hp'; cases hp'
    rw [upd_ne hpa] at hp'
    rw [upd_ne hba] at hb'
    have nav : ∀ x, H1 x = none → x ∉ av := fun x hx z => by
      obtain ⟨o, h⟩ := hav x z
      rw [e1 _ _ h] at hx
      cases hx
    have eall : Ex H1 (upd (upd (upd H1 a (.lst [])) b (.lst [])) p (.lst [.ref a, .ref b])) := ((Ex.mut (Ex.mut (Ex.mut (Ex.refl _) na) hb') hp'))
    refine q _ _ eall ⟨p, rfl, fresh_back e1 hp', [.ref a, .ref b], upd_same, rfl, fun j hj => ?_⟩
    match j, hj with
    | 0, _ => exact ⟨a, rfl, fun z => by
        rcases List.mem_cons.mp z with z | z
        · exact hpa z.symm
        · exact nav a na z, by rw [upd_ne hpa.symm, upd_ne hba.symm, upd_same]; rfl⟩
    | 1, _ => exact ⟨b, rfl, fun z => by
        rcases List.mem_cons.mp z with z | z
        · exact hpb z.symm
        · exact nav b hb' z, by rw [upd_ne hpb.symm, upd_same]; rfl⟩⟩⟩⟩
  refine q_asgX first fun y H1 e1 ⟨p, ey, np, hN⟩ => ?_
  subst ey
  refine q_forR2 (lo := 2) (n := (n : Int)) (ea_cons ev_c (ea_cons (ev_var rfl) ea_nil)) ⟨by decide, by decide, by omega, by omega⟩ (fun i σ' H' => Ex H H' ∧ NL (p :: av) H' p (i + 2) (pathF n) ∧ ∃ v2 v3 v4, σ' = [some (.int (n : Int)), some (.ref p), v2, v3, v4]) (fun H2 e2 => ⟨e1.trans e2, hN.mono e2, _, _, _, rfl⟩) ?_ ?_
  · rintro i σ' H2 hi ⟨e2, hN, v2, v3, v4, rfl⟩
    refine q_asg (ev_I (ev_var rfl) ev_c) fun H3 e3 => ?_
    refine q_ifAsg (i := 3) (v := .int (if (2 : Int) + i = 2 then 0 else 2 + i - 1)) (et_test (ev_eqI (ev_var rfl) ev_c)) (fun hb => by rw [if_pos (of_decide_eq_true hb)]; exact ev_c) (fun hb => by rw [if_neg (of_decide_eq_false hb)]; rfl) fun H4 e4 => ?_
    refine q_asg (ev_I (ev_var rfl) ev_c) fun H5 e5 => ?_
    refine q_ifAsg (i := 4) (v := .int (if (2 : Int) + i = n - 1 then 1 else 2 + i + 1)) (et_test (ev_eqI (ev_var rfl) (ev_I (ev_var rfl) ev_c))) (fun hb => by rw [if_pos (of_decide_eq_true hb)]; exact ev_c) (fun hb => by rw [if_neg (of_decide_eq_false hb)]; rfl) fun H6 e6 => ?_
    have e26 := (e3.trans e4).trans (e5.trans e6)
    have hN6 := hN.mono e26
    obtain ⟨ys, y1, y2, _⟩ := id hN6
    refine s_appL (l := p) (xs := ys) y1 (ev_var rfl) (el_lst (vs := [.int (if (2 : Int) + i = 2 then 0 else 2 + i - 1), .int (if (2 : Int) + i = n - 1 then 1 else 2 + i + 1)]) (ea_cons (ev_var rfl) (ea_cons (ev_var rfl) ea_nil)) (by show 2 ≤ 100000; decide)) (by omega) fun q7 H7 nq e7 hq => ?_
    have hqn : q7 ∉ p :: av := fun z => by
      rcases List.mem_cons.mp z with z | z
      · rw [z, y1] at nq; cases nq
      · obtain ⟨o, h⟩ := hav q7 z
        rw [(e2.trans e26) _ _ h] at nq
        cases nq
    obtain ⟨ys', z1, z2, z3⟩ := (hN6.mono e7).push (l := [if (2 : Int) + i = 2 then 0 else 2 + i - 1, if (2 : Int) + i = n - 1 then 1 else 2 + i + 1]) List.mem_cons_self hqn hq
    have hys : ys' = ys := by
      have := e7 _ _ y1
      rw [z1] at this
      cases this
      rfl
    rw [hys] at z3
    refine ⟨Ex.mut (e2.trans (e26.trans e7)) np, ?_, _, _, _, rfl⟩
    have e9 : i + 1 + 2 = i + 2 + 1 := by omega
    rw [e9]
    refine z3.congr fun v h0 h1 => ?_
    unfold setG
    split
    · rename_i z
      have hv : v = 2 + (i : Int) := by omega
      unfold pathF
      rw [hv, if_neg (show ¬ (2 + (i : Int) < 2) by omega)]
    · rfl
  · rintro σ' H2 ⟨e2, hN, v2, v3, v4, rfl⟩
    have e9 : ((n : Int) - 2).toNat + 2 = n := by omega
    rw [e9] at hN
    exact s_ret (ev_var rfl) fun H3 e3 => q p H3 np (e2.trans e3) (hN.mono e3)
end
theorem d__law_path {P : Program} {w : World} {K : Frag} {mg : Str → Option Value} {base : Heap} (T : Txt w K mg) {f : Addr} {cdv : Value} {A : Around} {outer : List Env} {s : Shared} {H : Hp} {E : XK} (hr : Room 0 (A.deeper (envOfC "_law_path" (defScope s__law_path) s.heap.objs.size f cdv))) :
    PSs (cxOf CX0 P w K mg base N__law_path "_law_path" (defScope s__law_path) f cdv A outer s H E).nox (defBody s__law_path) (t__law_path K) := by
  exact (pss_cons (ps_set (i := 1) sc__law_path.nd rfl (Or.inl rfl) (pe_lst (pa_cons (pe_lst pa_nil) (pa_cons (pe_lst pa_nil) pa_nil))))
    (pss_cons (ps_for PassesOwn.never rfl (pi_range2 (by rfl) (T.free (memOf 1 rfl)) (pa_cons pe_int (pa_cons (pv 0) pa_nil))) (pg_name (i := 2) sc__law_path.nd rfl (Or.inl rfl)) (pss_cons (ps_set (i := 3) sc__law_path.nd rfl (Or.inl rfl) (pe_op op_sub (pv 2) pe_int))
    (pss_cons (ps_if (pt_cmpR op_eq (pv 2) pe_int (nomark _)) (pss_one (ps_set (i := 3) sc__law_path.nd rfl (Or.inl rfl) pe_int)) pss_nil)
    (pss_cons (ps_set (i := 4) sc__law_path.nd rfl (Or.inl rfl) (pe_op op_add (pv 2) pe_int))
    (pss_cons (ps_if (pt_cmpR op_eq (pv 2) (pe_op op_sub (pv 0) pe_int) (nomark _)) (pss_one (ps_set (i := 4) sc__law_path.nd rfl (Or.inl rfl) pe_int)) pss_nil)
    (pss_one (ps_expr (pe_bm PySem.F.plainAttrs_list PySem.F.slot_list_append PySem.F.type_list_append mt_append (pv 1) (pa_cons (pe_lst (pa_cons (pv 3) (pa_cons (pv 4) pa_nil))) pa_nil)))))))))
    (pss_one (ps_ret (pv 1)))))
theorem ok__law_path {P : Program} {w : World} {K : Frag} {mg : Str → Option Value} {base : Heap} (T : Txt w K mg) : GF P w K mg base "_law_path" 1 (sp__law_path K) := by
  have F := T.def_ (d := xf__law_path) (memOf 77 rfl) rfl
  refine ⟨fnr_mk (k := 0) F sc__law_path (fun _ _ _ _ _ _ us hl => match us, hl with | [_], _ => rfl) (fun vs H Q E h => len__law_path h) (fun cdv A outer s H vs Q E hr h => ⟨t__law_path K, d__law_path T hr, pure__law_path T h⟩), ?_, T.glo (memOf 51 rfl)⟩
  obtain ⟨fd, F⟩ := F
  exact F.kp
end Pw
end

section
set_option maxRecDepth 100000
set_option maxHeartbeats 4000000
/-! The law's web, drawn. -/
namespace Pw
open PySem PySem.Spec L2 Evl StX PwS SlX
open PyProof.Rows hiding St
/-- the dues that are being gathered -/
def DL (K : Frag) (H : Hp) (p : Addr) (m : Nat) (D : Int → Due) : Prop := ∃ ds : List V, H p = some (.lst ds) ∧ ds.length = m ∧ ∀ j : Nat, j < m → ∃ v, ds[j]? = some v ∧ DueV K H (D j) v ∧ (D j).ok ∧ dueX (D j) ≤ 1000
theorem DL.mono {K : Frag} {H H' : Hp} {p : Addr} {m : Nat} {D : Int → Due} (e : Ex H H') (h : DL K H p m D) : DL K H' p m D := by
  obtain ⟨ys, h1, h2, h3⟩ := h
  exact ⟨ys, e _ _ h1, h2, fun j hj => let ⟨q, a, b, c⟩ := h3 j hj; ⟨q, a, b.mono e, c⟩⟩
theorem DL.dr {K : Frag} {H H' : Hp} {p pot : Addr} {m : Nat} {D : Int → Due} (e : Dr pot H H') (hP : Pot H pot) (hp : p ≠ pot) (h : DL K H p m D) : DL K H' p m D := by
  obtain ⟨ys, h1, h2, h3⟩ := h
  obtain ⟨ns, hn⟩ := hP
  exact ⟨ys, e.keep hp h1, h2, fun j hj => let ⟨q, a, b, c⟩ := h3 j hj; ⟨q, a, dueV_exp e.ex hn b, c⟩⟩
theorem DL.other {K : Frag} {H : Hp} {p p2 : Addr} {zs : List V} {o : HO} {m : Nat} {D : Int → Due} (hp : p ≠ p2) (hz : H p2 = some (.lst zs)) (h : DL K H p m D) : DL K (upd H p2 o) p m D := by
  obtain ⟨ys, h1, h2, h3⟩ := h
  exact ⟨ys, by rw [upd_ne hp]; exact h1, h2, fun j hj => let ⟨q, a, b, c⟩ := h3 j hj; ⟨q, a, b.updL hz, c⟩⟩
def setD (D : Int → Due) (m : Nat) (d : Due) : Int → Due := fun v => if v = m then d else D v
theorem setD_eq (D : Int → Due) (m : Nat) (d : Due) : setD D m d m = d := if_pos rfl
theorem setD_ne {D : Int → Due} {m : Nat} {d : Due} {v : Int} (h : v ≠ m) : setD D m d v = D v := if_neg h
theorem DL.push {K : Frag} {H : Hp} {p : Addr} {m : Nat} {D : Int → Due} {v : V} {d : Due} (h : DL K H p m D) (hv : DueV K H d v) (ok : d.ok) (dx : dueX d ≤ 1000) : ∃ ds, H p = some (.lst ds) ∧ ds.length = m ∧ DL K (upd H p (.lst (ds ++ [v]))) p (m + 1) (setD D m d) := by
  obtain ⟨ys, h1, h2, h3⟩ := h
  refine ⟨ys, h1, h2, ys ++ [v], upd_same, by rw [List.length_append, h2]; rfl, fun j hj => ?_⟩
  by_cases e : j = m
  · subst e
    exact ⟨v, by rw [List.getElem?_append_right (by omega), h2]; simp, by rw [setD_eq]; exact hv.updL h1, by rw [setD_eq]; exact ok, by rw [setD_eq]; exact dx⟩
  · obtain ⟨q', a, b, c, d'⟩ := h3 j (by omega)
    have hne : ¬ ((j : Int) = m) := by omega
    exact ⟨q', by rw [List.getElem?_append_left (by omega)]; exact a, by rw [setD_ne hne]; exact b.updL h1, by rw [setD_ne hne]; exact c, by rw [setD_ne hne]; exact d'⟩
section
variable {K : Frag} {pot : Addr} {σ : L2.St} {H : Hp} {te ta tb tl : TE} {P : V → Hp → Prop} {tz tu tw t : TS} {D : Ends} {c : TT}
theorem q_mid {u : TS} (Mid : L2.St → Hp → Prop) (k : ∀ σ' H', Mid σ' H' → u D σ' H') (h : (∀ σ' H', Mid σ' H' → u D σ' H') → t { D with nx := u D } σ H) : tSeq t u D σ H := h k
theorem q_flag {i : Nat} {b : Bool} (hs : σ.set i (some (.bl b)) = σ) (h : EtD pot c σ H) (k : ∀ b' H1, Dr pot H H1 → tz D (σ.set i (some (.bl b'))) H1) : tSeq (tIfS c (tAsg (tC (.bl true)) (gName i)) tNext) tz D σ H := h _ fun d H1 e => by
  cases d with
  | true => exact k true H1 e
  | false =>
    show tz D σ H1
    have := k b H1 e
    rw [hs] at this
    exact this
/-- l.append(e), e drawn -/
theorem s_appD {l : Addr} {xs : List V} (hl : H l = some (.lst xs)) (hn : l ≠ pot) (hP : Pot H pot) (ha : Ev ta σ H (.ref l)) (h : ∀ H1, Ex H H1 → EvD pot te σ H1 P) (hz : xs.length < 100000) (k : ∀ v H1, Dr pot H H1 → P v H1 → D.nx σ (upd H1 l (.lst (xs ++ [v])))) : tDrop (tBM K "list" rAppend ta (tCons te tNil)) D σ H :=
  ha H (Ex.refl H) _ fun H1 e1 => ⟨Or.inl ⟨rfl, xs, sq_of (e1 l _ hl)⟩, h H1 e1 _ fun v H2 e2 hp => ⟨l, xs, v, rfl, rfl, e2.keep hn (e1 l _ hl), sz_lt hz, k v H2 ((Dr.of hP e1).trans e2) hp⟩⟩
theorem evd_lot {n : Int} (ha : Ev ta σ H (.ref pot)) (hb : Ev tb σ H (.int n)) (hn : 0 < n) (hp : Pot H pot) : EvD pot (tFn (sp__law_lot K) (tCons ta (tCons tb tNil))) σ H (fun y H' => ∃ p l, y = .ref p ∧ H p = none ∧ H' p = some (.lst (intV l)) ∧ LotOk n l) := fun Q q =>
  ha H (Ex.refl _) _ fun H1 e1 => hb H1 e1 _ fun H2 e2 => ⟨pot, n, rfl, hn, hp.mono (e1.trans e2), fun p H3 l np e3 h3 hl => q _ H3 ((Dr.of hp (e1.trans e2)).trans e3) ⟨p, l, rfl, fresh_back (e1.trans e2) np, h3, hl⟩⟩
theorem evd_due (ha : Ev ta σ H (.ref pot)) (hp : Pot H pot) : EvD pot (tFn (sp__law_due K) (tCons ta tNil)) σ H (fun y H' => ∃ d, DueV K H' d y ∧ d.ok ∧ dueX d ≤ 1000) := fun Q q =>
  ha H (Ex.refl _) _ fun H1 e1 => ⟨pot, rfl, hp.mono e1, fun v H3 d e3 h3 ok dx => q _ H3 ((Dr.of hp e1).trans e3) ⟨d, h3, ok, dx⟩⟩
end
theorem map_nth {l : List Int} {n : Nat} (h : l.length = n) : (ran n).map (nth l) = l := by
  refine List.ext_getElem? fun i => ?_
  rw [List.getElem?_map]
  by_cases hi : i < n
  · rw [ran_get hi]
    have := nth_get (l := l) (i := (i : Int)) (by omega) (by omega)
    rw [Int.toNat_natCast] at this
    rw [this]
    rfl
  · rw [List.getElem?_eq_none (by rw [ran_len]; omega), List.getElem?_eq_none (by omega)]
    rfl
/-- what both ways of drawing a web give -/
structure Fs (n : Nat) (F S : Int → List Int) : Prop where
  fs : ∀ v : Int, 0 ≤ v → v < n → (F v = [] ↔ S v = [])
  fr : ∀ v w : Int, 0 ≤ v → v < n → w ∈ F v → 0 ≤ w ∧ w < n
  sr : ∀ v w : Int, 0 ≤ v → v < n → w ∈ S v → 0 ≤ w ∧ w < n
  fl : ∀ v : Int, 0 ≤ v → v < n → (F v).length ≤ 60
  sl : ∀ v : Int, 0 ≤ v → v < n → (S v).length ≤ 60
theorem lawW_of {K : Frag} {H : Hp} {pot lw pf ps pd pm : Addr} {n : Nat} {F S : Int → List Int} {av av' : List Addr} {DD : Int → Due} {zs : List Int} (hn : 0 < n) (h60 : n ≤ 60) (fs : Fs n F S) (h1 : NL av H pf n F) (h2 : NL av' H ps n S) (ha : pot ∈ av) (ha' : pot ∈ av') (h3 : DL K H pd n DD) (h4 : H pm = some (.lst (intV zs))) (hz : zs.length = n) (hz2 : ∀ z ∈ zs, z = 1 ∨ z = 2)
    (h5 : H lw = some (.lst [.ref pf, .ref ps, .ref pm, .ref pd])) (n1 : pf ≠ pot) (n2 : ps ≠ pot) (n3 : pd ≠ pot) (n4 : pm ≠ pot) (n5 : lw ≠ pot) : ∃ L A, L.n = n ∧ LawW K H pot lw L A := by
  obtain ⟨gf, f1, f2⟩ := h1.sq (K := K)
  obtain ⟨gs, s1, s2⟩ := h2.sq (K := K)
  obtain ⟨ds, d1, d2, d3⟩ := h3
  have dk : ∀ v : Int, 0 ≤ v → v < n → DueV K H (DD v) (ds.getD v.toNat .non) ∧ (DD v).ok ∧ dueX (DD v) ≤ 1000 := fun v a b => by
    obtain ⟨u, x1, x2⟩ := d3 v.toNat (by omega)
    rw [Int.toNat_of_nonneg a] at x2
    rw [List.getD_eq_getElem?_getD, x1]
    exact x2
  refine ⟨⟨n, F, S, nth zs, DD⟩, ⟨pf, ps, pm, pd, gf, gs, fun v => ds.getD v.toNat .non⟩, rfl, ⟨hn, fs.fs, fs.fr, fs.sr, fun v a b => hz2 _ (nth_mem a (by have hb : v < (n : Int) := b; omega)), fun v a b => (dk v a b).2.1⟩, h60, ⟨n5, sq_of h5⟩, ⟨n1, f1⟩, ⟨n2, s1⟩, ⟨n4, ?_⟩, ⟨n3, ?_⟩, fun v a b => (dk v a b).1, fun v a b => ⟨⟨fun z => (f2 v a b).1 (by rw [← z] at ha; exact ha), (f2 v a b).2⟩, fs.fl v a b⟩, fun v a b => ⟨⟨fun z => (s2 v a b).1 (by rw [← z] at ha'; exact ha'), (s2 v a b).2⟩, fs.sl v a b⟩, fun v a b => (dk v a b).2.2⟩
  · rw [rowV_int]
    show SqL K H pm (intV ((ran n).map (nth zs)))
    rw [map_nth hz]
    exact sq_of h4
  · show SqL K H pd ((ran n).map fun v => ds.getD v.toNat .non)
    rw [← ys_ran d2]
    exact sq_of d1
theorem pot_av {H : Hp} {pot : Addr} (h : Pot H pot) : ∀ a ∈ [pot], ∃ o, H a = some o := fun a ha => by
  obtain ⟨ns, h⟩ := h
  rw [List.mem_singleton] at ha
  subst ha
  exact ⟨_, h⟩
theorem pathF_in {n : Nat} {v w : Int} (h0 : 0 ≤ v) (h1 : v < n) (hn : 2 ≤ n) (h : w ∈ pathF n v) : 0 ≤ w ∧ w < n := by
  unfold pathF at h
  split at h
  · cases h
  · simp only [List.mem_cons, List.not_mem_nil, or_false] at h
    rcases h with h | h
    · rw [h]; split <;> omega
    · rw [h]; split <;> omega
theorem pathF_len (n : Nat) (v : Int) : (pathF n v).length ≤ 60 := by
  unfold pathF
  split
  · exact Nat.zero_le _
  · show 2 ≤ 60; decide
def sizes : List Int := [4, 3, 5, 4, 6, 2, 5, 3, 7, 1]
theorem sizes_rng : ∀ x ∈ sizes, 1 ≤ x ∧ x ≤ 7 := by decide
def sp__law_web (K : Frag) : Sp := fun vs H Q _ => ∃ pot, vs = [.ref pot, .int 4, .bl false] ∧ Pot H pot ∧ ∀ lw H' L A, H lw = none → Dr pot H H' → LawW K H' pot lw L A → L.n ≤ 4 → Q (.ref lw) H'
/-! _law_web -/
abbrev N__law_web : List Str := ["_law_pot_here", "_law_most", "_law_even", "_law_size", "_law_shape", "_law_first_here", "_law_dues", "_law_second_here", "_law_stand", "_law_is_end", "_law_lot_here", "_law_due_here"]
abbrev s__law_web : Stmt := top 85
theorem sc__law_web : FnScope N__law_web ["_law_pot_here", "_law_most", "_law_even"] (defScope s__law_web) := ⟨rfl, rfl, rfl, by decide +kernel, rfl, by decide +kernel, by decide +kernel⟩
def t__law_web (K : Frag) : TS := (tSeq (tAsg (tCB rMin2' (tCons (tVar 1) (tCons (tOp (rIx K) (tLst (tCons (tC (.int 4)) (tCons (tC (.int 3)) (tCons (tC (.int 5)) (tCons (tC (.int 4)) (tCons (tC (.int 6)) (tCons (tC (.int 2)) (tCons (tC (.int 5)) (tCons (tC (.int 3)) (tCons (tC (.int 7)) (tCons (tC (.int 1)) tNil))))))))))) (tFn (sp__law_draw K) (tCons (tVar 0) (tCons (tC (.int 10)) tNil)))) tNil))) (gName 3))
    (tSeq (tAsg (tFn (sp__law_draw K) (tCons (tVar 0) (tCons (tC (.int 5)) tNil))) (gName 4))
    (tSeq (tAsg (tLst tNil) (gName 5))
    (tSeq (tAsg (tLst tNil) (gName 6))
    (tSeq (tIfS (tAnd (tTest (tOp rEq (tVar 4) (tC (.int 0)))) (tTest (tOp rGe (tVar 3) (tC (.int 2))))) (tSeq (tAsg (tFn (sp__law_path K) (tCons (tVar 3) tNil)) (gName 5))
    (tSeq (tAsg (tOp rCat (tLst (tCons (tTup (tCons (tC (.str "chips")) (tCons (tC (.int 0)) tNil))) tNil)) (tLc (iRng1 (tCons (tOp rSub (tVar 3) (tC (.int 1))) tNil)) (gName 8) tYes (tC .non) [8])) (gName 6))
    (tAsg (tLc (iSeq K (tVar 5)) (gName 10) tYes (tCB (rListS K) (tCons (tVar 10) tNil)) [10]) (gName 7)))) (tSeq (tAsg (tLst tNil) (gName 7))
    (tFor (iRng1 (tCons (tVar 3) tNil)) (gName 8) (tSeq (tAsg (tAndV (tOp rEq (tVar 8) (tC (.int 0))) (tOp rNe (tVar 4) (tC (.int 4)))) (gName 9))
    (tSeq (tIfS (tAnd (tTest (tOp rEq (tVar 8) (tC (.int 1)))) (tTest (tOp rNe (tVar 4) (tC (.int 3))))) (tAsg (tC (.bl true)) (gName 9)) tNext)
    (tSeq (tIfS (tAnd (tTest (tOp rGe (tVar 8) (tC (.int 2)))) (tTest (tOp rEq (tFn (sp__law_draw K) (tCons (tVar 0) (tCons (tC (.int 8)) tNil))) (tC (.int 7))))) (tAsg (tC (.bl true)) (gName 9)) tNext)
    (tSeq (tIfS (tB (tVar 9)) (tSeq (tDrop (tBM K "list" rAppend (tVar 5) (tCons (tLst tNil) tNil)))
    (tDrop (tBM K "list" rAppend (tVar 7) (tCons (tLst tNil) tNil)))) (tSeq (tAsg (tFn (sp__law_lot K) (tCons (tVar 0) (tCons (tVar 3) tNil))) (gName 10))
    (tSeq (tDrop (tBM K "list" rAppend (tVar 5) (tCons (tVar 10) tNil)))
    (tIfS (tOr (tB (tVar 2)) (tTest (tOp rEq (tFn (sp__law_draw K) (tCons (tVar 0) (tCons (tC (.int 2)) tNil))) (tC (.int 0))))) (tDrop (tBM K "list" rAppend (tVar 7) (tCons (tCB (rListS K) (tCons (tVar 10) tNil)) tNil))) (tDrop (tBM K "list" rAppend (tVar 7) (tCons (tFn (sp__law_lot K) (tCons (tVar 0) (tCons (tVar 3) tNil))) tNil)))))))
    (tSeq (tAsg (tC .non) (gName 11))
    (tSeq (tIfS (tOr (tTest (tOp rEq (tVar 8) (tC (.int 0)))) (tAnd (tB (tVar 9)) (tTest (tOp rGe (tVar 8) (tC (.int 2)))))) (tAsg (tFn (sp__law_due K) (tCons (tVar 0) tNil)) (gName 11)) (tIfS (tAnd (tNot (tB (tVar 9))) (tTest (tOp rEq (tFn (sp__law_draw K) (tCons (tVar 0) (tCons (tC (.int 8)) tNil))) (tC (.int 7))))) (tAsg (tFn (sp__law_due K) (tCons (tVar 0) tNil)) (gName 11)) tNext))
    (tDrop (tBM K "list" rAppend (tVar 6) (tCons (tVar 11) tNil))))))))))))
    (tRet (tLst (tCons (tVar 5) (tCons (tVar 7) (tCons (tFn (sp__law_marks K) (tCons (tVar 0) (tCons (tVar 3) tNil))) (tCons (tVar 6) tNil)))))))))))
section
variable {w : World} {K : Frag} {mg : Str → Option Value} {vs : List V} {H : Hp} {Q : VK} {E : XK}
theorem len__law_web (h : sp__law_web K vs H Q E) : vs.length = 3 := by obtain ⟨pot, rfl, _⟩ := h; rfl
theorem pure__law_web (T : Txt w K mg) (h : sp__law_web K vs H Q E) : t__law_web K (E1 Q) (start N__law_web vs) H := by
  obtain ⟨pot, rfl, hp, q⟩ := h
  have hsz : EvD pot (tCB rMin2' (tCons (tVar 1) (tCons (tOp (rIx K) (tLst (tCons (tC (.int 4)) (tCons (tC (.int 3)) (tCons (tC (.int 5)) (tCons (tC (.int 4)) (tCons (tC (.int 6)) (tCons (tC (.int 2)) (tCons (tC (.int 5)) (tCons (tC (.int 3)) (tCons (tC (.int 7)) (tCons (tC (.int 1)) tNil))))))))))) (tFn (sp__law_draw K) (tCons (tVar 0) (tCons (tC (.int 10)) tNil)))) tNil))) (start N__law_web [.ref pot, .int 4, .bl false]) H (fun y _ => ∃ z, y = .int z ∧ 1 ≤ z ∧ z ≤ 4) := fun Q2 q2 =>
    ⟨_, rfl, by show 10 ≤ sizeLine; decide, fun p hpn => evd_draw (H := upd H p (.lst (intV sizes))) (ev_var rfl) ev_c (by decide) (hp.mono (Ex.new hpn)) _ fun v H1 e1 ⟨d, ev, d0, d1⟩ => by
      subst ev
      have hne := hp.ne hpn
      have hk := e1.keep hne upd_same
      have hr := sizes_rng _ (nth_mem (l := sizes) d0 (by show d < 10; exact d1))
      refine .inl ⟨p, intV sizes, d, .int (nth sizes d), rfl, rfl, sq_of hk, atI_int d0 (by show d < 10; exact d1), 4, nth sizes d, rfl, ?_⟩
      refine q2 _ H1 ((Dr.of hp (Ex.new hpn)).trans e1) ⟨_, rfl, ?_, ?_⟩
      · split <;> omega
      · split <;> omega⟩
  refine q_asgD hsz fun y H1 e1 ⟨z, ey, z1, z4⟩ => ?_
  subst ey
  obtain ⟨n, hnz⟩ : ∃ n : Nat, z = n := ⟨z.toNat, by omega⟩
  subst hnz
  refine q_asgD (evd_draw (ev_var rfl) ev_c (by decide) e1.pot) fun y H2 e2 ⟨sh, ey, _, _⟩ => ?_
  subst ey
  have e02 := e1.trans e2
  refine q_asgL (el_lst (vs := []) ea_nil (by decide)) fun pf H3 nf e3 hpf => ?_
  have nf0 := ex_back e02 nf
  have e03 := e02.then e3
  refine q_asgL (el_lst (vs := []) ea_nil (by decide)) fun pd H4 nd e4 hpd => ?_
  have nd0 := ex_back e03 nd
  have hfd : pf ≠ pd := fun z => by rw [← z, hpf] at nd; cases nd
  have e04 := e03.then e4
  have hpf4 := e4 _ _ hpf
  refine q_mid (fun σ' H' => Dr pot H H' ∧ ∃ pf ps pd F S DD av av' v8 v9 v10 v11, NL av H' pf n F ∧ NL av' H' ps n S ∧ pot ∈ av ∧ pot ∈ av' ∧ DL K H' pd n DD ∧ Fs n F S ∧ H pf = none ∧ H ps = none ∧ H pd = none ∧ σ' = [some (.ref pot), some (.int 4), some (.bl false), some (.int (n : Int)), some (.int sh), some (.ref pf), some (.ref pd), some (.ref ps), v8, v9, v10, v11]) ?_ fun fin => ?_
  · rintro σ' H5 ⟨e5, pf, ps, pd, F, S, DD, av, av', v8, v9, v10, v11, a1, a2, a3, a4, a5, a6, nf, ns, nd, rfl⟩
    have m1 := hp.ne nf
    have m2 := hp.ne ns
    have m3 := hp.ne nd
    refine ⟨_, rfl, _, rfl, _, rfl, _, rfl, pot, n, rfl, by omega, e5.pot, fun pm H6 zs nm e6 hm hl hz => ⟨_, rfl, by show 4 ≤ sizeLine; decide, fun lw hlw => ?_⟩⟩
    have e56 := e5.trans e6
    have e7 : Ex H6 (upd H6 lw (.lst [.ref pf, .ref ps, .ref pm, .ref pd])) := Ex.new hlw
    obtain ⟨L, A, hL, hW⟩ := lawW_of (K := K) (H := upd H6 lw (.lst [.ref pf, .ref ps, .ref pm, .ref pd])) (pot := pot) (lw := lw) (by omega) (by omega) a6 ((a1.dr e6 m1 a3).mono e7) ((a2.dr e6 m2 a4).mono e7) a3 a4 ((a5.dr e6 e5.pot m3).mono e7) (e7 _ _ hm) hl hz upd_same m1 m2 m3 (e5.pot.ne nm) (e56.pot.ne hlw)
    exact q lw _ L A (ex_back e56 hlw) (e56.then e7) hW (by omega)
  · refine s_if (et_and (et_test (ev_eqI (ev_var rfl) ev_c)) fun _ => et_test (ev_I (ev_var rfl) ev_c)) (fun hb H5 e5 => ?_) fun hb H5 e5 => ?_
    · have h2 : 2 ≤ n := by
        have := (Bool.and_eq_true_iff.mp hb).2
        have := of_decide_eq_true this
        omega
      have e05 := e04.then e5
      obtain ⟨ns5, hpot5⟩ := e05.pot
      refine q_asgX (P := fun y H' => ∃ p, y = .ref p ∧ H5 p = none ∧ NL (p :: [pot]) H' p n (pathF n)) (evx_fn (ea_cons (ev_var rfl) ea_nil) fun H6 e6 Q2 q2 E => ⟨n, [pot], rfl, h2, by omega, pot_av (e05.pot.mono e6), fun p H7 np e7 hN => q2 _ H7 e7 ⟨p, rfl, fresh_back e6 np, hN⟩⟩) fun y H6 e6 ⟨pf, ey, nf, hN⟩ => ?_
      subst ey
      have e06 := e05.then e6
      have elc := el_lc (K := K) (σ := [some (.ref pot), some (.int 4), some (.bl false), some (.int (n : Int)), some (.int sh), some (.ref pf), some (.ref pd), none, none, none, none, none]) (H := H6) (tl := tC .non) (t := tYes) (te := tC .non) (j := 8) (ws := [8]) (l := ([] : List Int)) (emb := fun _ => V.non) (f := fun _ => true) (g := fun _ => V.non)
      clear elc
      have enone := el_lr (σ := [some (.ref pot), some (.int 4), some (.bl false), some (.int (n : Int)), some (.int sh), some (.ref pf), some (.ref pd), none, none, none, none, none]) (H := H6) (j := 8) (ws := [8]) (t := tYes) (te := tC .non) (f := fun _ => true) (g := fun _ => V.non) (n := (n : Int) - 1) (ar := tCons (tOp rSub (tVar 3) (tC (.int 1))) tNil)
        (ea_cons (ev_I (ev_var rfl) ev_c) ea_nil) ⟨by omega, by omega⟩ (fun _ => rfl) (fun _ _ _ _ _ => et_yes) (fun _ _ _ _ _ _ => ev_c)
      rw [filter_yes] at enone
      have hdue : EvX (tOp rCat (tLst (tCons (tTup (tCons (tC (.str "chips")) (tCons (tC (.int 0)) tNil))) tNil)) (tLc (iRng1 (tCons (tOp rSub (tVar 3) (tC (.int 1))) tNil)) (gName 8) tYes (tC .non) [8])) [some (.ref pot), some (.int 4), some (.bl false), some (.int (n : Int)), some (.int sh), some (.ref pf), some (.ref pd), none, none, none, none, none] H6
          (fun y H' => ∃ p, y = .ref p ∧ H6 p = none ∧ DL K H' p n (setD (fun _ => Due.no) 0 (.chips 0))) := fun H7 e7 Q2 q2 =>
        ⟨by show 2 ≤ sizeLine; decide, fun a ha => ⟨by show 1 ≤ sizeLine; decide, fun b hb => by
          have ha' : H7 a = none := ha
          have hb' : (upd H7 a (.tup [.str "chips", .int 0])) b = none := hb
          have hba : b ≠ a := fun z => by rw [z, upd_same] at hb'; cases hb'
          rw [upd_ne hba] at hb'
          have e8 : Ex H7 (upd (upd H7 a (.tup [.str "chips", .int 0])) b (.lst [.ref a])) := Ex.mut (Ex.mut (Ex.refl _) ha') hb'
          refine enone _ (e7.trans e8) _ fun p H8 np e9 hp8 => ⟨b, p, [.ref a], (ran ((n : Int) - 1).toNat).map fun _ => V.non, rfl, rfl, e9 _ _ upd_same, hp8, by rw [List.length_map, ran_len]; show 1 + _ ≤ _; exact sz_of (by omega), fun r hr => ?_⟩
          have e10 : Ex H7 (upd H8 r (.lst ([.ref a] ++ (ran ((n : Int) - 1).toNat).map fun _ => V.non))) := (e8.trans e9).trans (Ex.new hr)
          refine q2 _ _ e10 ⟨r, rfl, fresh_back (e7.trans (e8.trans e9)) hr, _, upd_same, by rw [List.length_append, List.length_map, ran_len]; show 1 + _ = _; omega, fun j hj => ?_⟩
          cases j with
          | zero =>
            refine ⟨.ref a, rfl, ?_, ?_, ?_⟩
            · rw [setD_eq (fun _ => Due.no) 0 (.chips 0)]
              refine ⟨a, rfl, st_of ?_⟩
              rw [upd_ne fun z => by rw [← z] at hr; rw [e9 _ _ (by rw [upd_ne hba.symm, upd_same])] at hr; cases hr]
              exact e9 _ _ (by rw [upd_ne hba.symm, upd_same])
            · rw [setD_eq (fun _ => Due.no) 0 (.chips 0)]; show (0 : Int) ≤ 0; decide
            · rw [setD_eq (fun _ => Due.no) 0 (.chips 0)]; show (0 : Int) ≤ 1000; decide
          | succ j =>
            have hne : ((j + 1 : Nat) : Int) ≠ ((0 : Nat) : Int) := by omega
            refine ⟨.non, ?_, ?_, ?_, ?_⟩
            · rw [List.getElem?_append_right (by show 1 ≤ j + 1; omega)]
              show ((ran ((n : Int) - 1).toNat).map fun _ => V.non)[j + 1 - 1]? = _
              rw [List.getElem?_map, ran_get (by omega)]
              rfl
            · rw [setD_ne hne]; rfl
            · rw [setD_ne hne]; trivial
            · rw [setD_ne hne]; show (0 : Int) ≤ 1000; decide⟩⟩
      refine q_asgX hdue fun y H7 e7 ⟨pd, ey, nd, hD⟩ => ?_
      subst ey
      have e07 := e06.then e7
      have hN7 := hN.mono e7
      obtain ⟨g, hg1, hg2⟩ := hN7.sq (K := K)
      obtain ⟨ns7, hpot7⟩ := e07.pot
      refine s_asgX (el_copy (av := [pot]) (G := pathF n) (ev_var rfl) hg1 (fun v a b => (hg2 v a b).2) (by omega) (fun _ => rfl) (fun _ => rfl) (pot_av e07.pot)) fun y H8 e8 ⟨ps, ey, ns, hS⟩ => ?_
      subst ey
      refine fin _ _ ⟨e07.then e8, pf, ps, pd, pathF n, pathF n, setD (fun _ => Due.no) 0 (.chips 0), pf :: [pot], ps :: [pot], none, none, none, none, hN7.mono e8, hS, by simp, by simp, hD.mono e8, ⟨fun _ _ _ => Iff.rfl, fun v w a b h => pathF_in a b h2 h, fun v w a b h => pathF_in a b h2 h, fun v _ _ => pathF_len n v, fun v _ _ => pathF_len n v⟩, ex_back e05 nf, ex_back e07 ns, ex_back e06 nd, rfl⟩
    · have e05 := e04.then e5
      refine q_asgL (el_lst (vs := []) ea_nil (by decide)) fun ps H6 ns e6 hps => ?_
      have e06 := e05.then e6
      have ns0 := ex_back e05 ns
      have hpf6 := (e5.trans e6) _ _ hpf4
      have hpd6 := (e5.trans e6) _ _ hpd
      have hfs : pf ≠ ps := fun z => by rw [← z, e5 _ _ hpf4] at ns; cases ns
      have hds : pd ≠ ps := fun z => by rw [← z, e5 _ _ hpd] at ns; cases ns
      have m1 := hp.ne nf0
      have m2 := hp.ne ns0
      have m3 := hp.ne nd0
      refine s_forR1 (n := (n : Int)) (ea_cons (ev_var rfl) ea_nil) ⟨by omega, by omega⟩ (fun i σ' H' => Dr pot H H' ∧ ∃ F S DD v8 v9 v10 v11, NL [pot, pf, ps, pd] H' pf i F ∧ NL [pot, pf, ps, pd] H' ps i S ∧ DL K H' pd i DD ∧ (∀ v : Int, 0 ≤ v → v < i → (F v = [] ↔ S v = []) ∧ (∀ x ∈ F v, 0 ≤ x ∧ x < n) ∧ (∀ x ∈ S v, 0 ≤ x ∧ x < n) ∧ (F v).length ≤ 60 ∧ (S v).length ≤ 60) ∧ σ' = [some (.ref pot), some (.int 4), some (.bl false), some (.int (n : Int)), some (.int sh), some (.ref pf), some (.ref pd), some (.ref ps), v8, v9, v10, v11]) ?_ ?_ ?_
      · intro H7 e7
        exact ⟨e06.then e7, fun _ => [], fun _ => [], fun _ => .no, none, none, none, none, ⟨[], e7 _ _ hpf6, rfl, fun j hj => absurd hj (Nat.not_lt_zero _)⟩, ⟨[], e7 _ _ hps, rfl, fun j hj => absurd hj (Nat.not_lt_zero _)⟩, ⟨[], e7 _ _ hpd6, rfl, fun j hj => absurd hj (Nat.not_lt_zero _)⟩, (fun v h0 h1 => by omega), rfl⟩
      · rintro i σ' H7 hi ⟨e7, F, S, DD, v8, v9, v10, v11, a1, a2, a3, a4, rfl⟩
        have hi4 : i < 4 := by omega
        refine q_asg (v := .bl (decide ((i : Int) = 0) && !decide (sh = 4))) (ev_andV (ev_eqI (ev_var rfl) ev_c) fun _ => ev_neI (ev_var rfl) ev_c) fun H8 e8 => ?_
        have e08 := e7.then e8
        refine q_flag (i := 9) rfl (EvT.toD e08.pot (et_and (et_test (ev_eqI (ev_var rfl) ev_c)) fun _ => et_test (ev_neI (ev_var rfl) ev_c))) fun b1' H9 e9 => ?_
        have e09 := e08.trans e9
        refine q_flag (i := 9) rfl (etd_and e09.pot (et_test (ev_I (ev_var rfl) ev_c)) fun H10 e10 => etd_eq (evd_draw (ev_var rfl) ev_c (by decide) e10.pot)) fun b2 H10 e10 => ?_
        have e010 := e09.trans e10
        have d710 : Dr pot H7 H10 := (Dr.of e7.pot e8).trans (e9.trans e10)
        have b1'' := a1.dr d710 m1 (by simp)
        have b2' := a2.dr d710 m2 (by simp)
        have b3' := a3.dr d710 e7.pot m3
        refine q_mid (fun σ' H' => Dr pot H H' ∧ ∃ F S v10, NL [pot, pf, ps, pd] H' pf (i + 1) F ∧ NL [pot, pf, ps, pd] H' ps (i + 1) S ∧ DL K H' pd i DD ∧ (∀ v : Int, 0 ≤ v → v < ((i + 1 : Nat) : Int) → (F v = [] ↔ S v = []) ∧ (∀ x ∈ F v, 0 ≤ x ∧ x < n) ∧ (∀ x ∈ S v, 0 ≤ x ∧ x < n) ∧ (F v).length ≤ 60 ∧ (S v).length ≤ 60) ∧ σ' = [some (.ref pot), some (.int 4), some (.bl false), some (.int (n : Int)), some (.int sh), some (.ref pf), some (.ref pd), some (.ref ps), some (.int (i : Int)), some (.bl b2), v10, v11]) ?_ fun fin2 => ?_
        · rintro σ' H11 ⟨e11, F, S, v10, c1, c2, c3, c4, rfl⟩
          refine q_asg ev_c fun H12 e12 => ?_
          have e012 := e11.then e12
          have c1 := c1.mono e12
          have c2 := c2.mono e12
          have c3 := c3.mono e12
          refine q_mid (fun σ' H' => Dr pot H12 H' ∧ ∃ v d, DueV K H' d v ∧ d.ok ∧ dueX d ≤ 1000 ∧ σ' = [some (.ref pot), some (.int 4), some (.bl false), some (.int (n : Int)), some (.int sh), some (.ref pf), some (.ref pd), some (.ref ps), some (.int (i : Int)), some (.bl b2), v10, some v]) ?_ fun fin3 => ?_
          · rintro σ' H13 ⟨e13, v, d, hd, ok, dx, rfl⟩
            have g3 := c3.dr e13 e012.pot m3
            obtain ⟨ds, x1, x2, _⟩ := id g3
            refine s_app (l := pd) (xs := ds) x1 (ev_var rfl) (ev_var rfl) (by omega) fun H14 e14 => ?_
            obtain ⟨ds', y1, y2, y3⟩ := (g3.mono e14).push (hd.mono e14) ok dx
            have hds' : ds' = ds := by
              have := e14 _ _ x1
              rw [y1] at this
              cases this
              rfl
            rw [hds'] at y3
            exact ⟨((e012.trans e13).then e14).mut hp nd0, F, S, _, _, _, _, _, ((c1.dr e13 m1 (by simp)).mono e14).other hfd (by simp), ((c2.dr e13 m2 (by simp)).mono e14).other hds.symm (by simp), y3, c4, rfl⟩
          · refine s_if (et_or (et_test (ev_eqI (ev_var rfl) ev_c)) fun _ => et_and (et_B (ev_var rfl)) fun _ => et_test (ev_I (ev_var rfl) ev_c)) (fun _ H13 e13 => ?_) fun _ H13 e13 => ?_
            · exact s_asgD (evd_due (ev_var rfl) (e012.then e13).pot) fun v H14 e14 ⟨d, hd, ok, dx⟩ => fin3 _ _ ⟨(Dr.of e012.pot e13).trans e14, v, d, hd, ok, dx, rfl⟩
            · refine s_ifD (etd_and (e012.then e13).pot (et_not (et_B (ev_var rfl))) fun H14 e14 => etd_eq (evd_draw (ev_var rfl) ev_c (by decide) e14.pot)) (fun H14 e14 => ?_) fun H14 e14 => ?_
              · exact s_asgD (evd_due (ev_var rfl) e14.pot) fun v H15 e15 ⟨d, hd, ok, dx⟩ => fin3 _ _ ⟨((Dr.of e012.pot e13).trans e14).trans e15, v, d, hd, ok, dx, rfl⟩
              · exact fin3 _ _ ⟨(Dr.of e012.pot e13).trans e14, .non, .no, rfl, trivial, by show (0 : Int) ≤ 1000; decide, rfl⟩
        · have newq : ∀ {H' : Hp} {q : Addr}, Dr pot H H' → (∃ o, H' pf = some o) → (∃ o, H' ps = some o) → (∃ o, H' pd = some o) → H' q = none → q ∉ [pot, pf, ps, pd] := fun {H' q} e ⟨_, x1⟩ ⟨_, x2⟩ ⟨_, x3⟩ nq z => by
            obtain ⟨ns, x0⟩ := e.pot
            simp only [List.mem_cons, List.not_mem_nil, or_false] at z
            rcases z with z | z | z | z
            · rw [z, x0] at nq; cases nq
            · rw [z, x1] at nq; cases nq
            · rw [z, x2] at nq; cases nq
            · rw [z, x3] at nq; cases nq
          have kn : ∀ {H' : Hp} {p : Addr} {m : Nat} {G : Int → List Int} {av : List Addr}, NL av H' p m G → ∃ o, H' p = some o := fun h => let ⟨_, h1, _⟩ := h; ⟨_, h1⟩
          have knd : ∀ {H' : Hp} {p : Addr} {m : Nat} {D : Int → Due}, DL K H' p m D → ∃ o, H' p = some o := fun h => let ⟨_, h1, _⟩ := h; ⟨_, h1⟩
          have props : ∀ (lf ls : List Int), (lf = [] ↔ ls = []) → (∀ x ∈ lf, 0 ≤ x ∧ x < n) → (∀ x ∈ ls, 0 ≤ x ∧ x < n) → lf.length ≤ 60 → ls.length ≤ 60 → (∀ v : Int, 0 ≤ v → v < ((i + 1 : Nat) : Int) → (setG F i lf v = [] ↔ setG S i ls v = []) ∧ (∀ x ∈ setG F i lf v, 0 ≤ x ∧ x < n) ∧ (∀ x ∈ setG S i ls v, 0 ≤ x ∧ x < n) ∧ (setG F i lf v).length ≤ 60 ∧ (setG S i ls v).length ≤ 60) := fun lf ls p1 p2 p3 p4 p5 v h0 h1 => by
            unfold setG
            by_cases e : v = i
            · rw [if_pos e, if_pos e]
              exact ⟨p1, p2, p3, p4, p5⟩
            · rw [if_neg e, if_neg e]
              exact a4 v h0 (by omega)
          have pushL : ∀ {H' : Hp} {p q : Addr} {G : Int → List Int} {l : List Int} {ys : List V}, p ∈ [pot, pf, ps, pd] → q ∉ [pot, pf, ps, pd] → NL [pot, pf, ps, pd] H' p i G → H' q = some (.lst (intV l)) → H' p = some (.lst ys) → NL [pot, pf, ps, pd] (upd H' p (.lst (ys ++ [.ref q]))) p (i + 1) (setG G i l) := fun {H' p q G l ys} h1 h2 h3 h4 h5 => by
            obtain ⟨ys', y1, y2, y3⟩ := h3.push h1 h2 h4
            have : ys' = ys := by
              rw [h5] at y1
              cases y1
              rfl
            rw [this] at y3
            exact y3
          refine s_if (et_B (ev_var rfl)) (fun _ H11 e11 => ?_) fun _ H11 e11 => ?_
          · have c1 := b1''.mono e11
            have c2 := b2'.mono e11
            have c3 := b3'.mono e11
            have e011 := e010.then e11
            obtain ⟨ys, x1, x2, _⟩ := id c1
            refine q_appL (l := pf) (xs := ys) x1 (ev_var rfl) (el_lst (vs := []) ea_nil (by decide)) (by omega) fun qa H12 na e12 ha => ?_
            have hqa := newq e011 (kn c1) (kn c2) (knd c3) na
            have d1 := pushL (l := []) (by simp) hqa (c1.mono e12) ha (e12 _ _ x1)
            have d2 := (c2.mono e12).other (p2 := pf) (o := .lst (ys ++ [.ref qa])) hfs.symm (by simp)
            have d3 := (c3.mono e12).other (p2 := pf) (o := .lst (ys ++ [.ref qa])) hfd.symm (e12 _ _ x1)
            have e012 : Dr pot H (upd H12 pf (.lst (ys ++ [.ref qa]))) := (e011.then e12).mut hp nf0
            obtain ⟨zs, w1, w2, _⟩ := id d2
            refine s_appL (l := ps) (xs := zs) w1 (ev_var rfl) (el_lst (vs := []) ea_nil (by decide)) (by omega) fun qb H13 nb e13 hb => ?_
            have hqb := newq e012 (kn d1) (kn d2) (knd d3) nb
            exact fin2 _ _ ⟨(e012.then e13).mut hp ns0, setG F i [], setG S i [], _, (d1.mono e13).other hfs (by simp), pushL (l := []) (by simp) hqb (d2.mono e13) hb (e13 _ _ w1), (d3.mono e13).other hds (e13 _ _ w1), props [] [] Iff.rfl (fun x hx => by cases hx) (fun x hx => by cases hx) (Nat.zero_le _) (Nat.zero_le _), rfl⟩
          · have e011 := e010.then e11
            refine q_asgD (evd_lot (ev_var rfl) (ev_var rfl) (by omega) e011.pot) fun y H12 e12 ⟨qa, la, ey, na, ha, hla⟩ => ?_
            subst ey
            have e012 := e011.trans e12
            have hqa := newq e011 (kn (b1''.mono e11)) (kn (b2'.mono e11)) (knd (b3'.mono e11)) na
            have c1 := (b1''.mono e11).dr e12 m1 (by simp)
            have c2 := (b2'.mono e11).dr e12 m2 (by simp)
            have c3 := (b3'.mono e11).dr e12 e011.pot m3
            obtain ⟨ys, x1, x2, _⟩ := id c1
            refine q_app (l := pf) (xs := ys) x1 (ev_var rfl) (ev_var rfl) (by omega) fun H13 e13 => ?_
            have d1 := pushL (l := la) (by simp) hqa (c1.mono e13) (e13 _ _ ha) (e13 _ _ x1)
            have d2 := (c2.mono e13).other (p2 := pf) (o := .lst (ys ++ [.ref qa])) hfs.symm (by simp)
            have d3 := (c3.mono e13).other (p2 := pf) (o := .lst (ys ++ [.ref qa])) hfd.symm (e13 _ _ x1)
            have e013 : Dr pot H (upd H13 pf (.lst (ys ++ [.ref qa]))) := (e012.then e13).mut hp nf0
            have ha13 : (upd H13 pf (.lst (ys ++ [.ref qa]))) qa = some (.lst (intV la)) := by
              rw [upd_ne fun z => hqa (by rw [z]; simp)]
              exact e13 _ _ ha
            refine s_ifD (etd_or e013.pot (et_B (ev_var rfl)) fun H14 e14 => etd_eq (evd_draw (ev_var rfl) ev_c (by decide) e14.pot)) (fun H14 e14 => ?_) fun H14 e14 => ?_
            · have f1 := d1.dr e14 m1 (by simp)
              have f2 := d2.dr e14 m2 (by simp)
              have f3 := d3.dr e14 e013.pot m3
              have e014 := e013.trans e14
              have ha14 := e14.keep (fun z => hqa (by rw [z]; simp)) ha13
              obtain ⟨zs, w1, w2, _⟩ := id f2
              refine s_appL (l := ps) (xs := zs) w1 (ev_var rfl) (el_listA (K := K) (xs := intV la) (ev_var rfl) (.lst ha14)) (by omega) fun qb H15 nb e15 hb => ?_
              have hqb := newq e014 (kn f1) (kn f2) (knd f3) nb
              exact fin2 _ _ ⟨(e014.then e15).mut hp ns0, setG F i la, setG S i la, _, (f1.mono e15).other hfs (by simp), pushL (l := la) (by simp) hqb (f2.mono e15) hb (e15 _ _ w1), (f3.mono e15).other hds (e15 _ _ w1), props la la Iff.rfl hla.rng hla.rng hla.len hla.len, rfl⟩
            · have f1 := d1.dr e14 m1 (by simp)
              have f2 := d2.dr e14 m2 (by simp)
              have f3 := d3.dr e14 e013.pot m3
              have e014 := e013.trans e14
              obtain ⟨zs, w1, w2, _⟩ := id f2
              refine s_appD (l := ps) (xs := zs) w1 m2 e014.pot (ev_var rfl) (P := fun y H' => ∃ p l, y = .ref p ∧ H14 p = none ∧ H' p = some (.lst (intV l)) ∧ LotOk (n : Int) l) (fun H15 e15 Q2 q2 => evd_lot (ev_var rfl) (ev_var rfl) (by omega) (e014.pot.mono e15) Q2 fun v H2 e ⟨p, l, ev, np, h, hl⟩ => q2 v H2 e ⟨p, l, ev, fresh_back e15 np, h, hl⟩) (by omega) fun v H15 e15 ⟨qb, lb, ev, nb, hb, hlb⟩ => ?_
              subst ev
              have hqb := newq e014 (kn f1) (kn f2) (knd f3) nb
              have g1 := f1.dr e15 m1 (by simp)
              have g2 := f2.dr e15 m2 (by simp)
              have g3 := f3.dr e15 e014.pot m3
              have w1' := e15.keep m2 w1
              exact fin2 _ _ ⟨(e014.trans e15).mut hp ns0, setG F i la, setG S i lb, _, g1.other hfs (by simp), pushL (l := lb) (by simp) hqb g2 hb w1', g3.other hds w1', props la lb ⟨fun z => absurd z hla.ne, fun z => absurd z hlb.ne⟩ hla.rng hlb.rng hla.len hlb.len, rfl⟩
      · rintro σ' H7 ⟨e7, F, S, DD, v8, v9, v10, v11, a1, a2, a3, a4, rfl⟩
        rw [Int.toNat_natCast] at a1 a2 a3 a4
        exact fin _ _ ⟨e7, pf, ps, pd, F, S, DD, _, _, _, _, _, _, a1, a2, by simp, by simp, a3, ⟨fun v a b => (a4 v a b).1, fun v w a b => (a4 v a b).2.1 w, fun v w a b => (a4 v a b).2.2.1 w, fun v a b => (a4 v a b).2.2.2.1, fun v a b => (a4 v a b).2.2.2.2⟩, nf0, ns0, nd0, rfl⟩
end
theorem d__law_web {P : Program} {w : World} {K : Frag} {mg : Str → Option Value} {base : Heap} (T : Txt w K mg) {f : Addr} {cdv : Value} {A : Around} {outer : List Env} {s : Shared} {H : Hp} {E : XK} (hr : Room 2 (A.deeper (envOfC "_law_web" (defScope s__law_web) s.heap.objs.size f cdv))) :
    PSs (cxOf CX0 P w K mg base N__law_web "_law_web" (defScope s__law_web) f cdv A outer s H E).nox (defBody s__law_web) (t__law_web K) := by
  exact (pss_cons (ps_set (i := 3) sc__law_web.nd rfl (Or.inl rfl) (pe_callB (call_min2 rfl) (by rfl) (T.free (memOf 2 rfl)) b_min (pa_cons (pv 1) (pa_cons (pe_ix ix_seq (pe_lst (pa_cons pe_int (pa_cons pe_int (pa_cons pe_int (pa_cons pe_int (pa_cons pe_int (pa_cons pe_int (pa_cons pe_int (pa_cons pe_int (pa_cons pe_int (pa_cons pe_int pa_nil))))))))))) (pe_f (ok__law_draw T) hr (by decide) (by rfl) (pa_cons (pv 0) (pa_cons pe_int pa_nil))) (fun _ _ => rfl)) pa_nil))))
    (pss_cons (ps_set (i := 4) sc__law_web.nd rfl (Or.inl rfl) (pe_f (ok__law_draw T) hr (by decide) (by rfl) (pa_cons (pv 0) (pa_cons pe_int pa_nil))))
    (pss_cons (ps_set (i := 5) sc__law_web.nd rfl (Or.inl rfl) (pe_lst pa_nil))
    (pss_cons (ps_set (i := 6) sc__law_web.nd rfl (Or.inl rfl) (pe_lst pa_nil))
    (pss_cons (ps_if (PW.pt (pw_and (pt_cmpR op_eq (pv 4) pe_int (nomark _)) (pw_and1 (pt_cmpR op_ge (pv 3) pe_int (nomark _))))) (pss_cons (ps_set (i := 5) sc__law_web.nd rfl (Or.inl rfl) (pe_f (ok__law_path T) hr (by decide) (by rfl) (pa_cons (pv 3) pa_nil)))
    (pss_cons (ps_set (i := 6) sc__law_web.nd rfl (Or.inl rfl) (pe_op op_cat (pe_lst (pa_cons (pe_tup (pa_cons pe_str (pa_cons pe_int pa_nil))) pa_nil)) (pe_lc (own := [("_law_stand", 8)]) (g := gName 8) (tt := tYes) (te := (tC .non)) rfl sc__law_web.nd (pi_range1 (by rfl) (T.free (memOf 1 rfl)) (pa_cons (pe_op op_sub (pv 3) pe_int) pa_nil)) (blkOk_by (N := N__law_web) (sc := defScope s__law_web) (by decide +kernel)) (fun _ _ _ _ _ => pg_name (i := 8) sc__law_web.nd rfl (Or.inl rfl)) (fun _ _ _ _ _ => pts_nil) (fun _ _ _ _ _ => pe_non))))
    (pss_one (ps_setLc (i := 7) (own := [("_law_lot_here", 10)]) (g := gName 10) (tt := tYes) (te := (tCB (rListS K) (tCons (tVar 10) tNil))) rfl sc__law_web.nd rfl rfl (sw_true rfl rfl rfl (by decide +kernel)) (pi_seq (pv 5)) (blkOk_by (N := N__law_web) (sc := defScope s__law_web) (by decide +kernel)) (fun _ _ _ _ _ => pg_name (i := 10) sc__law_web.nd rfl (Or.inl rfl)) (fun _ _ _ _ _ => pts_nil) (fun _ _ _ _ _ => (pe_callTy call_list_of (by rfl) (T.free (memOf 7 rfl)) b_list (pa_cons (pv 10) pa_nil))))))) (pss_cons (ps_set (i := 7) sc__law_web.nd rfl (Or.inl rfl) (pe_lst pa_nil))
    (pss_one (ps_for PassesOwn.never rfl (pi_range1 (by rfl) (T.free (memOf 1 rfl)) (pa_cons (pv 3) pa_nil)) (pg_name (i := 8) sc__law_web.nd rfl (Or.inl rfl)) (pss_cons (ps_set (i := 9) sc__law_web.nd rfl (Or.inl rfl) (pe_and (pe_cmpR op_eq (pv 8) pe_int (nomark _)) (pe_one (pe_cmpR op_ne (pv 4) pe_int (nomark _)))))
    (pss_cons (ps_if (PW.pt (pw_and (pt_cmpR op_eq (pv 8) pe_int (nomark _)) (pw_and1 (pt_cmpR op_ne (pv 4) pe_int (nomark _))))) (pss_one (ps_set (i := 9) sc__law_web.nd rfl (Or.inl rfl) pe_bl)) pss_nil)
    (pss_cons (ps_if (PW.pt (pw_and (pt_cmpR op_ge (pv 8) pe_int (nomark _)) (pw_and1 (pt_cmpR op_eq (pe_f (ok__law_draw T) hr (by decide) (by rfl) (pa_cons (pv 0) (pa_cons pe_int pa_nil))) pe_int (nomark _))))) (pss_one (ps_set (i := 9) sc__law_web.nd rfl (Or.inl rfl) pe_bl)) pss_nil)
    (pss_cons (ps_if (pt_val (pv 9)) (pss_cons (ps_expr (pe_bm PySem.F.plainAttrs_list PySem.F.slot_list_append PySem.F.type_list_append mt_append (pv 5) (pa_cons (pe_lst pa_nil) pa_nil)))
    (pss_one (ps_expr (pe_bm PySem.F.plainAttrs_list PySem.F.slot_list_append PySem.F.type_list_append mt_append (pv 7) (pa_cons (pe_lst pa_nil) pa_nil))))) (pss_cons (ps_set (i := 10) sc__law_web.nd rfl (Or.inl rfl) (pe_f (ok__law_lot T) hr (by decide) (by rfl) (pa_cons (pv 0) (pa_cons (pv 3) pa_nil))))
    (pss_cons (ps_expr (pe_bm PySem.F.plainAttrs_list PySem.F.slot_list_append PySem.F.type_list_append mt_append (pv 5) (pa_cons (pv 10) pa_nil)))
    (pss_one (ps_if (PW.pt (pw_or (pt_val (pv 2)) (pw_or1 (pt_cmpR op_eq (pe_f (ok__law_draw T) hr (by decide) (by rfl) (pa_cons (pv 0) (pa_cons pe_int pa_nil))) pe_int (nomark _))))) (pss_one (ps_expr (pe_bm PySem.F.plainAttrs_list PySem.F.slot_list_append PySem.F.type_list_append mt_append (pv 7) (pa_cons (pe_callTy call_list_of (by rfl) (T.free (memOf 7 rfl)) b_list (pa_cons (pv 10) pa_nil)) pa_nil)))) (pss_one (ps_expr (pe_bm PySem.F.plainAttrs_list PySem.F.slot_list_append PySem.F.type_list_append mt_append (pv 7) (pa_cons (pe_f (ok__law_lot T) hr (by decide) (by rfl) (pa_cons (pv 0) (pa_cons (pv 3) pa_nil))) pa_nil)))))))))
    (pss_cons (ps_set (i := 11) sc__law_web.nd rfl (Or.inl rfl) pe_non)
    (pss_cons (ps_if (PW.pt (pw_or (pt_cmpR op_eq (pv 8) pe_int (nomark _)) (pw_or1 (PW.pt (pw_and (pt_val (pv 9)) (pw_and1 (pt_cmpR op_ge (pv 8) pe_int (nomark _)))))))) (pss_one (ps_set (i := 11) sc__law_web.nd rfl (Or.inl rfl) (pe_f (ok__law_due T) hr (by decide) (by rfl) (pa_cons (pv 0) pa_nil)))) (pss_one (ps_if (PW.pt (pw_and (pt_not (pt_val (pv 9))) (pw_and1 (pt_cmpR op_eq (pe_f (ok__law_draw T) hr (by decide) (by rfl) (pa_cons (pv 0) (pa_cons pe_int pa_nil))) pe_int (nomark _))))) (pss_one (ps_set (i := 11) sc__law_web.nd rfl (Or.inl rfl) (pe_f (ok__law_due T) hr (by decide) (by rfl) (pa_cons (pv 0) pa_nil)))) pss_nil)))
    (pss_one (ps_expr (pe_bm PySem.F.plainAttrs_list PySem.F.slot_list_append PySem.F.type_list_append mt_append (pv 6) (pa_cons (pv 11) pa_nil))))))))))))))
    (pss_one (ps_ret (pe_lst (pa_cons (pv 5) (pa_cons (pv 7) (pa_cons (pe_f (ok__law_marks T) hr (by decide) (by rfl) (pa_cons (pv 0) (pa_cons (pv 3) pa_nil))) (pa_cons (pv 6) pa_nil))))))))))))
theorem ok__law_web {P : Program} {w : World} {K : Frag} {mg : Str → Option Value} {base : Heap} (T : Txt w K mg) : GF P w K mg base "_law_web" 3 (sp__law_web K) := by
  have F := T.def_ (d := xf__law_web) (memOf 78 rfl) rfl
  refine ⟨fnr_mk (k := 2) F sc__law_web (fun _ _ _ _ _ _ us hl => match us, hl with | [_, _, _], _ => rfl) (fun vs H Q E h => len__law_web h) (fun cdv A outer s H vs Q E hr h => ⟨t__law_web K, d__law_web T hr, pure__law_web T h⟩), ?_, T.glo (memOf 52 rfl)⟩
  obtain ⟨fd, F⟩ := F
  exact F.kp
end Pw
end

section
set_option maxRecDepth 100000
set_option maxHeartbeats 4000000
/-! Calls drawn; the law's web built; what lasts while the pot is drawn from. -/
namespace Pw
open PySem PySem.Spec L2 Evl StX PwS SlX
open PyProof.Rows hiding St
section
variable {K : Frag} {pot : Addr} {σ : L2.St} {H : Hp} {te ta tb tl : TE} {t : TT}
/-- [x for x in xs if t], t drawn -/
theorem evd_lcF {p : Addr} {l : List Int} {j : Nat} {ws : List Nat} (hp : Pot H pot) (ha : Ev tl σ H (.ref p)) (hs : LL K pot H p (intV l)) (hn : l.length ≤ 40000) (hw : ∀ x, wipe ((wipe σ ws).set j (some x)) ws = wipe σ ws) (hj : ∀ x : V, ((wipe σ ws).set j (some x))[j]? = some (some x))
    (ht : ∀ v H1, Pot H1 pot → EtD pot t ((wipe σ ws).set j (some v)) H1) :
    EvD pot (tLc (iSeq K tl) (gName j) t (tVar j) ws) σ H (fun y H' => ∃ p zs, y = .ref p ∧ H p = none ∧ H' p = some (.lst (intV zs)) ∧ zs.length ≤ l.length ∧ ∀ z ∈ zs, z ∈ l) := fun Q q => ha H (Ex.refl _) _ fun H1 e1 => ⟨p, rfl, .inl ⟨⟨_, ex_l e1 hs.2⟩, fun Dl hD =>
  lc_list (xs := intV l) (fun i H' => Dr pot H1 H' ∧ ∃ zs, zs.length ≤ i ∧ (∀ z ∈ zs, z ∈ l) ∧ H' Dl = some (.lst (intV zs))) ⟨(Dr.refl (hp.mono e1)).mut (hp.mono e1) hD, [], Nat.le_refl _, (fun z hz => by cases hz), upd_same⟩ (fun i H' _ pc => pc.1.sqL hs.1 (ex_l e1 hs.2)) (fun i x H' hi ⟨pc, zs, hl, hz, hd⟩ => by
    have hil := (List.getElem?_eq_some_iff.mp hi).1
    rw [intV_len] at hil
    obtain ⟨n, hn2, rfl⟩ := intV_at hi
    refine ⟨hw _, ?_⟩
    refine ht _ H' pc.pot _ fun b H3 e3 => ?_
    have hd3 := e3.new hD (hp.mono e1) hd
    cases b with
    | false => exact ⟨pc.trans e3, zs, by omega, hz, hd3⟩
    | true =>
      refine ⟨_, hj _, intV zs, hd3, sz_lt (by rw [intV_len]; omega), (pc.trans e3).mut (hp.mono e1) hD, zs ++ [n], by rw [List.length_append]; show zs.length + 1 ≤ _; omega, fun u hu => ?_, ?_⟩
      · rcases List.mem_append.mp hu with g | g
        · exact hz u g
        · rw [List.mem_singleton.mp g]; exact List.mem_of_getElem? hn2
      · rw [upd_same]
        unfold intV
        rw [List.map_append]
        rfl) (fun H' ⟨pc, zs, hl, hz, hd⟩ => q _ H' ((Dr.of hp e1).trans pc) ⟨Dl, zs, rfl, fresh_back e1 hD, hd, by rw [intV_len] at hl; exact hl, hz⟩)⟩⟩
end
def sp__law_calls (K : Frag) : Sp := fun vs H Q _ => ∃ pot lw L A, vs = [.ref pot, .ref lw] ∧ Pot H pot ∧ LawW K H pot lw L A ∧ ∀ p H' C l, H p = none → Dr pot H H' → H' p = some (.lst (intV l)) → (∀ v, v ∈ l ↔ C v = true) → l.length ≤ 60 → COk (wSrt L) C → Q (.ref p) H'
/-! _law_calls -/
abbrev N__law_calls : List Str := ["_law_pot_here", "_law_web_here", "_law_moving", "_law_calls_here", "_law_stand"]
abbrev s__law_calls : Stmt := top 91
theorem sc__law_calls : FnScope N__law_calls ["_law_pot_here", "_law_web_here"] (defScope s__law_calls) := ⟨rfl, rfl, rfl, by decide +kernel, rfl, by decide +kernel, by decide +kernel⟩
def t__law_calls (K : Frag) : TS := (tSeq (tAsg (tLc (iRng1 (tCons (tCB (rLenS K) (tCons (tOp (rIx K) (tVar 1) (tC (.int 0))) tNil)) tNil)) (gName 4) (tTest (tOp rGt (tCB (rLenS K) (tCons (tOp (rIx K) (tOp (rIx K) (tVar 1) (tC (.int 0))) (tVar 4)) tNil)) (tC (.int 0)))) (tVar 4) [4]) (gName 2))
    (tSeq (tAsg (tLc (iSeq K (tVar 2)) (gName 4) (tTest (tOp rEq (tFn (sp__law_draw K) (tCons (tVar 0) (tCons (tC (.int 3)) tNil))) (tC (.int 0)))) (tVar 4) [4]) (gName 3))
    (tSeq (tIfS (tAnd (tTest (tOp rEq (tCB (rLenS K) (tCons (tVar 3) tNil)) (tC (.int 0)))) (tAnd (tTest (tOp rGt (tCB (rLenS K) (tCons (tVar 2) tNil)) (tC (.int 0)))) (tTest (tOp rLt (tFn (sp__law_draw K) (tCons (tVar 0) (tCons (tC (.int 6)) tNil))) (tC (.int 5)))))) (tAsg (tLst (tCons (tOp (rIx K) (tVar 2) (tFn (sp__law_draw K) (tCons (tVar 0) (tCons (tCB (rLenS K) (tCons (tVar 2) tNil)) tNil)))) tNil)) (gName 3)) tNext)
    (tRet (tVar 3)))))
section
variable {w : World} {K : Frag} {mg : Str → Option Value} {vs : List V} {H : Hp} {Q : VK} {E : XK}
theorem len__law_calls (h : sp__law_calls K vs H Q E) : vs.length = 2 := by obtain ⟨pot, lw, L, A, rfl, _⟩ := h; rfl
theorem pure__law_calls (T : Txt w K mg) (h : sp__law_calls K vs H Q E) : t__law_calls K (E1 Q) (start N__law_calls vs) H := by
  obtain ⟨pot, lw, L, A, rfl, hp, hw, q⟩ := h
  have hn := hw.n60
  refine q_asgL (el_lrF (n := L.n) (p := (wSrt L).mov) (ea_cons (ev_Ln (ev_var rfl) hw) ea_nil) (by omega) (fun _ => rfl) (fun v H1 e1 h0 h1 => et_Lmov (ev_var rfl) (hw.mono e1) (ev_var rfl) h0 h1) (fun _ _ => ev_var rfl)) fun pm H1 nm e1 hpm => ?_
  have hp1 := hp.mono e1
  have nmp := hp.ne nm
  have hlen := filter_len (l := ran L.n) (f := (wSrt L).mov) (Nat.le_of_eq (ran_len L.n))
  have hin : ∀ v, v ∈ (ran L.n).filter (wSrt L).mov → 0 ≤ v ∧ v < L.n ∧ (wSrt L).mov v = true := fun v hv => by
    have := List.mem_filter.mp hv
    have h2 := mem_ran.mp this.1
    exact ⟨h2.1, h2.2, this.2⟩
  generalize (ran L.n).filter (wSrt L).mov = ml at hpm hlen hin
  refine q_asgD (evd_lcF (l := ml) hp1 (ev_var rfl) ⟨nmp, sq_of hpm⟩ (by omega) (fun _ => rfl) (fun _ => rfl) (fun v H2 hp2 => etd_eq (evd_draw (ev_var rfl) ev_c (by decide) hp2))) fun y H2 e2 ⟨pc, zs, ey, nc, hpc, hl, hz⟩ => ?_
  subst ey
  have e02 := (Dr.of hp e1).trans e2
  have fin : ∀ p H' zs, H p = none → Dr pot H H' → H' p = some (.lst (intV zs)) → zs.length ≤ 60 → (∀ z ∈ zs, z ∈ ml) → Q (.ref p) H' := fun p H' zs np e hp' hl hz => q p H' (fun v => zs.contains v) zs np e hp' (fun v => (List.contains_iff_mem).symm) hl fun v hv => by
    have := hin v (hz v (List.contains_iff_mem.mp hv))
    exact ⟨this.1, this.2.1, this.2.2⟩
  have lenI : ∀ {H' : Hp} {i : Nat} {p : Addr} {zs : List Int} {σ : L2.St}, σ[i]? = some (some (.ref p)) → H' p = some (.lst (intV zs)) → Ev (tCB (rLenS K) (tCons (tVar i) tNil)) σ H' (.int (zs.length : Int)) := fun {H' i p zs σ} h1 h2 => by
    have := ev_len' (K := K) (ta := tVar i) (σ := σ) (ev_var h1) (.lst h2)
    rw [intV_len] at this
    exact this
  have hpm2 := e2.keep nmp hpm
  have npc : pc ≠ pot := fun z => by obtain ⟨ns, hn⟩ := hp1; rw [z, hn] at nc; cases nc
  by_cases hml : ml = []
  · refine q_if (b := false) (et_is (et_and (a := decide ((zs.length : Int) = 0)) (b := false) (et_test (ev_eqI (lenI rfl hpc) ev_c)) fun _ => et_is (et_and (a := false) (b := false) (et_is (et_test (ev_I (lenI rfl hpm2) ev_c)) (by rw [hml]; rfl)) fun z => nomatch z) rfl) (by simp)) (fun z => nomatch z) fun _ H3 e3 => ?_
    exact s_ret (ev_var rfl) fun H4 e4 => fin pc H4 zs (fresh_back e1 nc) ((e02.then e3).then e4) ((e3.trans e4) _ _ hpc) (by omega) hz
  refine q_ifD (etd_and e02.pot (et_test (ev_eqI (lenI rfl hpc) ev_c)) fun H3 e3 => etd_and e3.pot (et_test (ev_I (lenI rfl (e3.keep nmp hpm2)) ev_c)) fun H4 e4 => etd_lt (evd_draw (ev_var rfl) ev_c (by decide) e4.pot)) (fun H3 e3 => ?_) fun H3 e3 => ?_
  · have hpos := List.length_pos_iff.mpr hml
    have hpm3 := e3.keep nmp hpm2
    have one : EvD pot (tLst (tCons (tOp (rIx K) (tVar 2) (tFn (sp__law_draw K) (tCons (tVar 0) (tCons (tCB (rLenS K) (tCons (tVar 2) tNil)) tNil)))) tNil)) [some (.ref pot), some (.ref lw), some (.ref pm), some (.ref pc), none] H3 (fun y H' => ∃ p z, y = .ref p ∧ H3 p = none ∧ H' p = some (.lst (intV [z])) ∧ z ∈ ml) := fun Q2 q2 =>
      ⟨.ref pm, rfl, evd_draw (ev_var rfl) (lenI rfl hpm3) (by omega) e3.pot _ fun u H4 e4 ⟨j, eu, j0, j1⟩ => by
        subst eu
        have hpm4 := e4.keep nmp hpm3
        refine .inl ⟨pm, intV ml, j, .int (nth ml j), rfl, rfl, sq_of hpm4, atI_int j0 j1, by show 1 ≤ sizeLine; decide, fun t ht => ?_⟩
        exact q2 _ _ (e4.then (Ex.new ht)) ⟨t, nth ml j, rfl, ex_back e4 ht, upd_same, nth_mem j0 j1⟩⟩
    refine s_asgD one fun y H4 e4 ⟨pq, z, ey, nq, hq, hzm⟩ => ?_
    subst ey
    have e03 := e02.trans e3
    exact s_ret (ev_var rfl) fun H5 e5 => fin pq H5 [z] (ex_back e03 nq) ((e03.trans e4).then e5) (e5 _ _ hq) (by show 1 ≤ 60; decide) fun x hx => by rw [List.mem_singleton.mp hx]; exact hzm
  · have hpc3 := e3.keep npc hpc
    exact s_ret (ev_var rfl) fun H4 e4 => fin pc H4 zs (fresh_back e1 nc) ((e02.trans e3).then e4) (e4 _ _ hpc3) (by omega) hz
end
theorem d__law_calls {P : Program} {w : World} {K : Frag} {mg : Str → Option Value} {base : Heap} (T : Txt w K mg) {f : Addr} {cdv : Value} {A : Around} {outer : List Env} {s : Shared} {H : Hp} {E : XK} (hr : Room 1 (A.deeper (envOfC "_law_calls" (defScope s__law_calls) s.heap.objs.size f cdv))) :
    PSs (cxOf CX0 P w K mg base N__law_calls "_law_calls" (defScope s__law_calls) f cdv A outer s H E).nox (defBody s__law_calls) (t__law_calls K) := by
  exact (pss_cons (ps_setLc (i := 2) (own := [("_law_stand", 4)]) (g := gName 4) (tt := (tTest (tOp rGt (tCB (rLenS K) (tCons (tOp (rIx K) (tOp (rIx K) (tVar 1) (tC (.int 0))) (tVar 4)) tNil)) (tC (.int 0))))) (te := (tVar 4)) rfl sc__law_calls.nd rfl rfl (sw_true rfl rfl rfl (by decide +kernel)) (pi_range1 (by rfl) (T.free (memOf 1 rfl)) (pa_cons (pe_callB call_len_seq (by rfl) (T.free (memOf 0 rfl)) b_len (pa_cons (pe_ix ix_seq (pv 1) pe_int (fun _ _ => rfl)) pa_nil)) pa_nil)) (blkOk_by (N := N__law_calls) (sc := defScope s__law_calls) (by decide +kernel)) (fun _ _ _ _ _ => pg_name (i := 4) sc__law_calls.nd rfl (Or.inl rfl)) (fun _ _ _ _ _ => pts_one (pt_cmpR op_gt (pe_callB call_len_seq (by rfl) (T.free (memOf 0 rfl)) b_len (pa_cons (pe_ix ix_seq (pe_ix ix_seq (pv 1) pe_int (fun _ _ => rfl)) (pv 4) (fun _ _ => rfl)) pa_nil)) pe_int (nomark _))) (fun _ _ _ _ _ => (pv 4)))
    (pss_cons (ps_setLc (i := 3) (own := [("_law_stand", 4)]) (g := gName 4) (tt := (tTest (tOp rEq (tFn (sp__law_draw K) (tCons (tVar 0) (tCons (tC (.int 3)) tNil))) (tC (.int 0))))) (te := (tVar 4)) rfl sc__law_calls.nd rfl rfl (sw_true rfl rfl rfl (by decide +kernel)) (pi_seq (pv 2)) (blkOk_by (N := N__law_calls) (sc := defScope s__law_calls) (by decide +kernel)) (fun _ _ _ _ _ => pg_name (i := 4) sc__law_calls.nd rfl (Or.inl rfl)) (fun _ _ _ _ _ => pts_one (pt_cmpR op_eq (pe_f (ok__law_draw T) hr (by decide) (by rfl) (pa_cons (pv 0) (pa_cons pe_int pa_nil))) pe_int (nomark _))) (fun _ _ _ _ _ => (pv 4)))
    (pss_cons (ps_if (PW.pt (pw_and (pt_cmpR op_eq (pe_callB call_len_seq (by rfl) (T.free (memOf 0 rfl)) b_len (pa_cons (pv 3) pa_nil)) pe_int (nomark _)) (pw_and (pt_cmpR op_gt (pe_callB call_len_seq (by rfl) (T.free (memOf 0 rfl)) b_len (pa_cons (pv 2) pa_nil)) pe_int (nomark _)) (pw_and1 (pt_cmpR op_lt (pe_f (ok__law_draw T) hr (by decide) (by rfl) (pa_cons (pv 0) (pa_cons pe_int pa_nil))) pe_int (nomark _)))))) (pss_one (ps_set (i := 3) sc__law_calls.nd rfl (Or.inl rfl) (pe_lst (pa_cons (pe_ix ix_seq (pv 2) (pe_f (ok__law_draw T) hr (by decide) (by rfl) (pa_cons (pv 0) (pa_cons (pe_callB call_len_seq (by rfl) (T.free (memOf 0 rfl)) b_len (pa_cons (pv 2) pa_nil)) pa_nil))) (fun _ _ => rfl)) pa_nil)))) pss_nil)
    (pss_one (ps_ret (pv 3))))))
theorem ok__law_calls {P : Program} {w : World} {K : Frag} {mg : Str → Option Value} {base : Heap} (T : Txt w K mg) : GF P w K mg base "_law_calls" 2 (sp__law_calls K) := by
  have F := T.def_ (d := xf__law_calls) (memOf 84 rfl) rfl
  refine ⟨fnr_mk (k := 1) F sc__law_calls (fun _ _ _ _ _ _ us hl => match us, hl with | [_, _], _ => rfl) (fun vs H Q E h => len__law_calls h) (fun cdv A outer s H vs Q E hr h => ⟨t__law_calls K, d__law_calls T hr, pure__law_calls T h⟩), ?_, T.glo (memOf 58 rfl)⟩
  obtain ⟨fd, F⟩ := F
  exact F.kp
def sp__law_built (K : Frag) : Sp := fun vs H Q _ => ∃ pot lw L A, vs = [.ref lw] ∧ LawW K H pot lw L A ∧ ∀ p H' B, Ex H H' → WebAt K H' p (wSrt L) B → Q (.ref p) H'
/-! _law_built -/
abbrev N__law_built : List Str := ["_law_web_here", "_law_lot_here"]
abbrev s__law_built : Stmt := top 94
theorem sc__law_built : FnScope N__law_built ["_law_web_here"] (defScope s__law_built) := ⟨rfl, rfl, rfl, by decide +kernel, rfl, by decide +kernel, by decide +kernel⟩
def t__law_built (K : Frag) : TS := (tRet (tMakeR (gW K) (sp_Web___init__ K) E0 (tCons (tLc (iSeq K (tOp (rIx K) (tVar 0) (tC (.int 0)))) (gName 1) tYes (tCB (rListS K) (tCons (tVar 1) tNil)) [1]) (tCons (tLc (iSeq K (tOp (rIx K) (tVar 0) (tC (.int 1)))) (gName 1) tYes (tCB (rListS K) (tCons (tVar 1) tNil)) [1]) (tCons (tCB (rListS K) (tCons (tOp (rIx K) (tVar 0) (tC (.int 2))) tNil)) (tCons (tCB (rListS K) (tCons (tOp (rIx K) (tVar 0) (tC (.int 3))) tNil)) tNil))))))
section
variable {w : World} {K : Frag} {mg : Str → Option Value} {vs : List V} {H : Hp} {Q : VK} {E : XK}
theorem len__law_built (h : sp__law_built K vs H Q E) : vs.length = 1 := by obtain ⟨pot, lw, L, A, rfl, _⟩ := h; rfl
theorem pure__law_built (T : Txt w K mg) (h : sp__law_built K vs H Q E) : t__law_built K (E1 Q) (start N__law_built vs) H := by
  obtain ⟨pot, lw, L, A, rfl, hw, q⟩ := h
  have hn := hw.n60
  refine s_retX (P := fun y H' => ∃ p B, y = .ref p ∧ WebAt K H' p (wSrt L) B) (evx_mk (PA := fun vs H5 => ∃ p1 p2 p3 p4 gf gs, vs = [.ref p1, .ref p2, .ref p3, .ref p4] ∧ RawW K H5 p1 p2 p3 p4 L gf gs) (fun H1 e1 Q2 q2 => ?_) fun vs H1 x dx e1 ⟨p1, p2, p3, p4, gf, gs, ev, hraw⟩ h1 h2 h3 Q2 q2 => ?_) fun y H1 e1 ⟨p, B, ey, hB⟩ => ?_
  · refine el_copy (K := K) (av := []) (G := L.F) (ev_L0 (ev_var rfl) hw) hw.hf.2 (fun v a b => (hw.ff v a b).1.2) hn (fun _ => rfl) (fun _ => rfl) (fun a ha => by cases ha) H1 e1 _ fun y1 H2 e2 ⟨p1, ey1, _, hN1⟩ => ?_
    have hw2 := hw.mono (e1.trans e2)
    refine el_copy (K := K) (av := []) (G := L.S) (ev_L1 (ev_var rfl) hw2) hw2.hs.2 (fun v a b => (hw2.fs v a b).1.2) hn (fun _ => rfl) (fun _ => rfl) (fun a ha => by cases ha) H2 (Ex.refl _) _ fun y2 H3 e3 ⟨p2, ey2, _, hN2⟩ => ?_
    have hw3 := hw2.mono e3
    refine el_listA (xs := rowV L.n L.mark) (ev_L2 (ev_var rfl) hw3) (.l hw3.hm.2) H3 (Ex.refl _) _ fun p3 H4 n3 e4 h3 => ?_
    have hw4 := hw3.mono e4
    refine el_listA (xs := (ran L.n).map A.g) (ev_L3 (ev_var rfl) hw4) (.l hw4.hd.2) H4 (Ex.refl _) _ fun p4 H5 n4 e5 h4 => ?_
    have hw5 := hw4.mono e5
    obtain ⟨gf, f1, f2⟩ := (hN1.mono (e3.trans (e4.trans e5))).sq (K := K)
    obtain ⟨gs, s1, s2⟩ := (hN2.mono (e4.trans e5)).sq (K := K)
    subst ey1
    subst ey2
    exact q2 _ H5 (e2.trans (e3.trans (e4.trans e5))) ⟨p1, p2, p3, p4, gf, gs, rfl, hw.ok, hn, .l f1, .l s1, .lst (e5 _ _ h3), ⟨A.g, .lst h4, hw5.hg⟩, fun v a b => ⟨(f2 v a b).2, (hw.ff v a b).2⟩, fun v a b => ⟨(s2 v a b).2, (hw.fs v a b).2⟩, hw.dx⟩
  · subst ev
    exact ⟨H1, x, dx, p1, p2, p3, p4, L, gf, gs, rfl, Fill.made h1 h2 h3, hraw, fun H' B e hB => q2 H' e ⟨x, B, rfl, hB⟩⟩
  · subst ey
    exact q p H1 B e1 hB
end
theorem d__law_built {P : Program} {w : World} {K : Frag} {mg : Str → Option Value} {base : Heap} (T : Txt w K mg) {f : Addr} {cdv : Value} {A : Around} {outer : List Env} {s : Shared} {H : Hp} {E : XK} (hr : Room 6 (A.deeper (envOfC "_law_built" (defScope s__law_built) s.heap.objs.size f cdv))) :
    PSs (cxOf CX0 P w K mg base N__law_built "_law_built" (defScope s__law_built) f cdv A outer s H E).nox (defBody s__law_built) (t__law_built K) := by
  exact (pss_one (ps_ret (pe_makeN T.mkW (ok_Web___init__ T) hr (by decide) (T.glo (memOf 74 rfl)) (by rfl) (pa_cons (pe_lc (own := [("_law_lot_here", 1)]) (g := gName 1) (tt := tYes) (te := (tCB (rListS K) (tCons (tVar 1) tNil))) rfl sc__law_built.nd (pi_seq (pe_ix ix_seq (pv 0) pe_int (fun _ _ => rfl))) (blkOk_by (N := N__law_built) (sc := defScope s__law_built) (by decide +kernel)) (fun _ _ _ _ _ => pg_name (i := 1) sc__law_built.nd rfl (Or.inl rfl)) (fun _ _ _ _ _ => pts_nil) (fun _ _ _ _ _ => (pe_callTy call_list_of (by rfl) (T.free (memOf 7 rfl)) b_list (pa_cons (pv 1) pa_nil)))) (pa_cons (pe_lc (own := [("_law_lot_here", 1)]) (g := gName 1) (tt := tYes) (te := (tCB (rListS K) (tCons (tVar 1) tNil))) rfl sc__law_built.nd (pi_seq (pe_ix ix_seq (pv 0) pe_int (fun _ _ => rfl))) (blkOk_by (N := N__law_built) (sc := defScope s__law_built) (by decide +kernel)) (fun _ _ _ _ _ => pg_name (i := 1) sc__law_built.nd rfl (Or.inl rfl)) (fun _ _ _ _ _ => pts_nil) (fun _ _ _ _ _ => (pe_callTy call_list_of (by rfl) (T.free (memOf 7 rfl)) b_list (pa_cons (pv 1) pa_nil)))) (pa_cons (pe_callTy call_list_of (by rfl) (T.free (memOf 7 rfl)) b_list (pa_cons (pe_ix ix_seq (pv 0) pe_int (fun _ _ => rfl)) pa_nil)) (pa_cons (pe_callTy call_list_of (by rfl) (T.free (memOf 7 rfl)) b_list (pa_cons (pe_ix ix_seq (pv 0) pe_int (fun _ _ => rfl)) pa_nil)) pa_nil)))))))
theorem ok__law_built {P : Program} {w : World} {K : Frag} {mg : Str → Option Value} {base : Heap} (T : Txt w K mg) : GF P w K mg base "_law_built" 7 (sp__law_built K) := by
  have F := T.def_ (d := xf__law_built) (memOf 87 rfl) rfl
  refine ⟨fnr_mk (k := 6) F sc__law_built (fun _ _ _ _ _ _ us hl => match us, hl with | [_], _ => rfl) (fun vs H Q E h => len__law_built h) (fun cdv A outer s H vs Q E hr h => ⟨t__law_built K, d__law_built T hr, pure__law_built T h⟩), ?_, T.glo (memOf 61 rfl)⟩
  obtain ⟨fd, F⟩ := F
  exact F.kp
/-! ### what lasts -/
section
variable {K : Frag} {pot : Addr} {H H' : Hp} {zs : List V} (e : ExP pot H H') (hp : H pot = some (.lst zs))
include e hp
theorem slt_exp {a C dx : Addr} {ws : List (Option V)} (h : Slt H a C dx ws) : Slt H' a C dx ws := by
  rcases h with ⟨h1, h2⟩ | ⟨h1, h2⟩
  · exact .inl ⟨e _ _ (fun z => by rw [z, hp] at h1; cases h1) h1, h2⟩
  · refine .inr ⟨e _ _ (fun z => ?_) h1, e _ _ (fun z => by rw [z, hp] at h2; cases h2) h2⟩
    rw [z, hp] at h1
    have h3 := Option.some.inj h1
    unfold SlO at h3
    cases h3
theorem webAt_exp {a : Addr} {W : Wb} {A : WA} (h : WebAt K H a W A) : WebAt K H' a W A :=
  ⟨h.ok, h.n60, slt_exp e hp h.sl, h.qf, h.qs, h.qm, h.qd, h.qv, sqT_exp e hp h.hfT, sqT_exp e hp h.hsT, sqT_exp e hp h.hmT, (by
    obtain ⟨g, h1, h2⟩ := h.hdT
    exact ⟨g, sqT_exp e hp h1, fun v a b => dueV_exp e hp (h2 v a b)⟩), sqT_exp e hp h.hvT, fun v a b => ⟨sqT_exp e hp (h.ffT v a b).1, (h.ffT v a b).2⟩, fun v a b => ⟨sqT_exp e hp (h.fsT v a b).1, (h.fsT v a b).2⟩⟩
theorem papAt_exp {p : Addr} {W : Wb} {C : Int → Bool} {k : Int} {X rk ct : Int → Int} {B : PA'} (h : PapAt K H p W C k X rk ct B) : PapAt K H' p W C k X rk ct B :=
  ⟨webAt_exp e hp h.web, slt_exp e hp h.sl, h.qw, h.qk, h.qc, h.qr, h.q1, h.q2, ⟨.t (sqT_exp e hp h.hcT), h.hc.mem, h.hc.len, h.hc.ok⟩, sqT_exp e hp h.hcT, sqT_exp e hp h.hr, sqT_exp e hp h.h1, sqT_exp e hp h.h2, h.k0, h.k1, h.hX, h.nr, h.nc⟩
end
theorem CAt.dr {K : Frag} {pot c : Addr} {H H' : Hp} {W : Wb} {C : Int → Bool} {l : List Int} (e : Dr pot H H') (h : CAt K H c W C l) (hl : LL K pot H c (intV l)) : CAt K H' c W C l := ⟨.l (e.sqL hl.1 hl.2), h.mem, h.len, h.ok⟩
end Pw
end

section
set_option maxRecDepth 100000
set_option maxHeartbeats 4000000
/-! The law's plays. -/
namespace Pw
open PySem PySem.Spec L2 Evl StX PwS SlX
open PyProof.Rows hiding St
theorem plQ_exp {K : Frag} {C : Addr} {pot q : Addr} {H H' : Hp} {zs : List V} {W : Wb} {Cc : Int → Bool} {k : Int} {X rk ct : Int → Int} (e : ExP pot H H') (hp : H pot = some (.lst zs)) (h : PlQ K C H q W Cc k X rk ct) : PlQ K C H' q W Cc k X rk ct := by
  obtain ⟨dx, r, p, B, h⟩ := h
  exact ⟨dx, r, p, B, e _ _ (fun z => by have := h.at_; rw [z, hp] at this; cases this) h.at_, sqT_exp e hp h.row, papAt_exp e hp h.pap⟩
theorem PlQ.dr {K : Frag} {C : Addr} {pot q : Addr} {H H' : Hp} {W : Wb} {Cc : Int → Bool} {k : Int} {X rk ct : Int → Int} (hP : Pot H pot) (e : Dr pot H H') (h : PlQ K C H q W Cc k X rk ct) : PlQ K C H' q W Cc k X rk ct := let ⟨_, hn⟩ := hP; plQ_exp e.ex hn h
theorem LawW.dr {K : Frag} {pot lw : Addr} {H H' : Hp} {L : Wb} {A : LWA} (hP : Pot H pot) (e : Dr pot H H') (h : LawW K H pot lw L A) : LawW K H' pot lw L A := let ⟨_, hn⟩ := hP; h.exp e.ex hn
theorem Dr.sqT {K : Frag} {pot p : Addr} {H H' : Hp} {xs : List V} (hP : Pot H pot) (e : Dr pot H H') (h : SqT K H p xs) : SqT K H' p xs := let ⟨_, hn⟩ := hP; sqT_exp e.ex hn h
/-! ### falling -/
theorem fallStrict {R u r u' r' : Int} (hR : 0 ≤ R) (h1 : r' ≤ R) (hu : u' ≤ u) (h : u' = u → r' < r) (hr : 1 ≤ r) : R * u' + r' + 1 ≤ R * u + r := by
  by_cases e : u' = u
  · have := h e
    rw [e]
    omega
  · have h2 : R * u' ≤ R * (u - 1) := Int.mul_le_mul_of_nonneg_left (by omega) hR
    rw [Int.mul_sub, Int.mul_one] at h2
    omega
theorem fallWeak {R u r u' r' : Int} (hR : 0 ≤ R) (h1 : r' ≤ R) (hu : u' ≤ u) (h : u' = u → r' ≤ r) (hr : 0 ≤ r) : R * u' + r' ≤ R * u + r := by
  by_cases e : u' = u
  · have := h e
    rw [e]
    omega
  · have h2 : R * u' ≤ R * (u - 1) := Int.mul_le_mul_of_nonneg_left (by omega) hR
    rw [Int.mul_sub, Int.mul_one] at h2
    omega
def cR (C : Int → Bool) (R : Int) (v : Int) : Int := if C v = true then R + 1 else 0
theorem cR_mul (C : Int → Bool) (R vis v : Int) : (R + 1) * (vis + cb C v) = (R + 1) * vis + cR C R v := by
  rw [Int.mul_add]
  unfold cb cR
  split <;> simp
/-- the first's word: t turns made, u the fall's first part -/
def I1 (C : Int → Bool) (R k : Int) (v t vis u r : Int) : Prop := t + (R * u + r) + cR C R v ≤ R * k + R + (R + 1) * vis
theorem I1.start {C : Int → Bool} {R k v u r : Int} (hR : 0 ≤ R) (hu : u ≤ k) (hr : r ≤ R) : I1 C R k v 0 (cb C v) u r := by
  have h1 : R * u ≤ R * k := Int.mul_le_mul_of_nonneg_left hu hR
  have h2 := cR_mul C R 0 v
  rw [Int.zero_add, Int.mul_zero, Int.zero_add] at h2
  unfold I1
  rw [h2]
  omega
theorem I1.step {C : Int → Bool} {R k v v' t vis u r u' r' : Int} (hR : 0 ≤ R) (h : I1 C R k v t vis u r) (hr0 : 0 ≤ r) (h1 : r' ≤ R) (hu : u' ≤ u) (hn : C v = false → 1 ≤ r ∧ (u' = u → r' < r)) : I1 C R k v' (t + 1) (vis + cb C v') u' r' := by
  unfold I1 at h ⊢
  rw [cR_mul]
  cases hc : C v with
  | false =>
    have := fallStrict hR h1 hu (hn hc).2 (hn hc).1
    have e : cR C R v = 0 := by unfold cR; rw [hc]; rfl
    omega
  | true =>
    have h2 : R * u' ≤ R * u := Int.mul_le_mul_of_nonneg_left hu hR
    have e : cR C R v = R + 1 := by unfold cR; rw [hc]; rfl
    omega
theorem I1.due {C : Int → Bool} {R k v t vis u r : Int} (hR : 0 ≤ R) (h : I1 C R k v t vis u r) (hu : 0 ≤ u) (hr : 0 ≤ r) : t < (R + 1) * (vis + 1) + R * k := by
  unfold I1 at h
  have h2 : 0 ≤ R * u := Int.mul_nonneg hR hu
  have h3 : 0 ≤ cR C R v := by unfold cR; split <;> omega
  rw [Int.mul_add, Int.mul_one]
  omega
def I2 (C : Int → Bool) (S k : Int) (v vis u r : Int) : Prop := vis + (S * u + r) ≤ S * k + S + cb C v
theorem I2.start {C : Int → Bool} {S k v u r : Int} (hS : 0 ≤ S) (hu : u ≤ k) (hr : r ≤ S) : I2 C S k v (cb C v) u r := by
  have h1 : S * u ≤ S * k := Int.mul_le_mul_of_nonneg_left hu hS
  unfold I2
  omega
theorem I2.step {C : Int → Bool} {S k v v' vis u r u' r' : Int} (hS : 0 ≤ S) (h : I2 C S k v vis u r) (hr : 1 ≤ r) (h1 : r' ≤ S) (hu : u' ≤ u) (hn : u' = u → r' ≤ r ∧ (C v = true → r' < r)) : I2 C S k v' (vis + cb C v') u' r' := by
  unfold I2 at h ⊢
  cases hc : C v with
  | false =>
    have := fallWeak hS h1 hu (fun e => (hn e).1) (by omega)
    have e : cb C v = 0 := by unfold cb; rw [hc]; rfl
    omega
  | true =>
    have := fallStrict hS h1 hu (fun e => (hn e).2 hc) hr
    have e : cb C v = 1 := by unfold cb; rw [hc]; rfl
    omega
theorem I2.due {C : Int → Bool} {S k v vis u r : Int} (hS : 0 ≤ S) (h : I2 C S k v vis u r) (hu : 0 ≤ u) (hr : 0 ≤ r) (hc : C v = true → 1 ≤ r) : vis ≤ S * (k + 1) := by
  unfold I2 at h
  have h2 : 0 ≤ S * u := Int.mul_nonneg hS hu
  rw [Int.mul_add, Int.mul_one]
  cases e : C v with
  | false =>
    have : cb C v = 0 := by unfold cb; rw [e]; rfl
    omega
  | true =>
    have : cb C v = 1 := by unfold cb; rw [e]; rfl
    have := hc e
    omega
/-- (draw(..), steps[draw(len(steps))]) -/
theorem evd_answer {K : Frag} {pot : Addr} {σ : L2.St} {H : Hp} {tb tp : TE} {m : Int} {i : Nat} {p : Addr} {l : List Int} (hp : Pot H pot) (ha : ∀ H1, Dr pot H H1 → Ev tp σ H1 (.ref pot)) (hb : Ev tb σ H (.int m)) (hm : 0 < m) (hs : σ[i]? = some (some (.ref p))) (hl : LL K pot H p (intV l)) (hne : l ≠ []) :
    EvD pot (tTup (tCons (tFn (sp__law_draw K) (tCons tp (tCons tb tNil))) (tCons (tOp (rIx K) (tVar i) (tFn (sp__law_draw K) (tCons tp (tCons (tCB (rLenS K) (tCons (tVar i) tNil)) tNil)))) tNil))) σ H (fun y H' => ∃ t q w, y = .ref t ∧ SqT K H' t [.int q, .int w] ∧ 0 ≤ q ∧ q < m ∧ w ∈ l) := fun Q2 q2 =>
  evd_draw (ha _ (.refl hp)) hb hm hp _ fun v H1 e1 ⟨d, ev, d0, d1⟩ => by
    have hl1 := hl.exp e1.ex
    have hlen : Ev (tCB (rLenS K) (tCons (tVar i) tNil)) σ H1 (.int (l.length : Int)) := by
      have := ev_len' (K := K) (ta := tVar i) (σ := σ) (ev_var hs) (.l hl1.2)
      rw [intV_len] at this
      exact this
    refine ⟨.ref p, hs, evd_draw (ha _ e1) hlen (by have := List.length_pos_iff.mpr hne; omega) e1.pot _ fun u H2 e2 ⟨j, eu, j0, j1⟩ => ?_⟩
    subst ev
    subst eu
    have hl2 := hl1.exp e2.ex
    refine .inl ⟨p, intV l, j, .int (nth l j), rfl, rfl, hl2.2, atI_int j0 j1, by show 2 ≤ sizeLine; decide, fun t ht => ?_⟩
    exact q2 _ _ ((e1.trans e2).then (Ex.new ht)) ⟨t, d, nth l j, rfl, st_of upd_same, d0, d1, nth_mem j0 j1⟩
theorem spv_due_by {K : Frag} {H : Hp} {q : Addr} {W : Wb} {C : Int → Bool} {k : Int} {X rk ct : Int → Int} {t : Int} (h : PlQ K (g1 K) H q W C k X rk ct) (ht : 1 ≤ t) (hm : 0 ≤ maxR W rk ∧ maxR W rk ≤ 1000) : SpV (sp_CallFirst_due_by K) [.ref q, .int t] H (.int ((maxR W rk + 1) * t + maxR W rk * k)) :=
  fun H1 e Q qq E => ⟨q, W, C, k, X, rk, ct, t, rfl, h.mono e, ht, hm, fun H2 e2 => qq H2 e2⟩
theorem spv_visits {K : Frag} {H : Hp} {q : Addr} {W : Wb} {C : Int → Bool} {k : Int} {X rk ct : Int → Int} (h : PlQ K (g2 K) H q W C k X rk ct) (hm : 0 ≤ maxR W ct ∧ maxR W ct ≤ 1000) : SpV (sp_CallSecond_visits_at_most K) [.ref q] H (.int (maxR W ct * (k + 1))) :=
  fun H1 e Q qq E => ⟨q, W, C, k, X, rk, ct, rfl, h.mono e, hm, fun H2 e2 => qq H2 e2⟩
theorem ev_due_by {K : Frag} {σ : L2.St} {H : Hp} {ta tb : TE} {q : Addr} {W : Wb} {C : Int → Bool} {k : Int} {X rk ct : Int → Int} {t : Int} (ha : Ev ta σ H (.ref q)) (h : PlQ K (g1 K) H q W C k X rk ct) (hb : Ev tb σ H (.int t)) (ht : 1 ≤ t) (hm : 0 ≤ maxR W rk ∧ maxR W rk ≤ 1000) :
    Ev (tMethR (g1 K) "due_by" (sp_CallFirst_due_by K) E0 ta (tCons tb tNil)) σ H (.int ((maxR W rk + 1) * t + maxR W rk * k)) := by
  obtain ⟨dx, r, p, B, hp⟩ := id h
  exact ev_methR ha hp.at_ rfl (ea_cons hb ea_nil) (spv_due_by h ht hm)
theorem ev_visits {K : Frag} {σ : L2.St} {H : Hp} {ta : TE} {q : Addr} {W : Wb} {C : Int → Bool} {k : Int} {X rk ct : Int → Int} (ha : Ev ta σ H (.ref q)) (h : PlQ K (g2 K) H q W C k X rk ct) (hm : 0 ≤ maxR W ct ∧ maxR W ct ≤ 1000) :
    Ev (tMethR (g2 K) "visits_at_most" (sp_CallSecond_visits_at_most K) E0 ta tNil) σ H (.int (maxR W ct * (k + 1))) := by
  obtain ⟨dx, r, p, B, hp⟩ := id h
  exact ev_methR ha hp.at_ rfl ea_nil (spv_visits h hm)
/-- what both plays want -/
structure PlayOk (K : Frag) (H : Hp) (pot lw c : Addr) (L : Wb) (A : LWA) (C : Int → Bool) (l : List Int) (k : Int) (X rk ct : Int → Int) : Prop where
  hpot : Pot H pot
  hw : LawW K H pot lw L A
  hc : CAt K H c (wSrt L) C l
  hl : LL K pot H c (intV l)
  ev : IsEver (wSrt L) C (k + 1) X
  up : Upper (wSrt L) C (k + 1) X rk
  dn : Lower (wSrt L) C (k + 1) X ct
  k0 : 0 ≤ k
  k1 : k ≤ 60
  r0 : 0 ≤ maxR (wSrt L) rk ∧ maxR (wSrt L) rk ≤ 1000
  r1 : 0 ≤ maxR (wSrt L) ct ∧ maxR (wSrt L) ct ≤ 1000
def sp__law_first_play (K : Frag) : Sp := fun vs H Q _ => ∃ pot lw L A k c C l X rk ct o v a, vs = [.ref lw, .int k, .ref c, .ref o, .int v, .int a, .ref pot] ∧ PlayOk K H pot lw c L A C l k X rk ct ∧ PlQ K (g1 K) H o (wSrt L) C k X rk ct ∧ 0 ≤ v ∧ v < L.n ∧ X v ≤ a ∧ a ≤ k ∧ ∀ H', Dr pot H H' → Q (.bl true) H'
/-! _law_first_play -/
abbrev N__law_first_play : List Str := ["_law_web_here", "_law_k", "_law_calls_here", "_law_plan", "_law_stand", "_law_purse", "_law_pot_here", "_law_visits", "_law_moves", "_law_steps", "_law_answer", "_law_before", "_law_state", "_law_after"]
abbrev s__law_first_play : Stmt := top 104
theorem sc__law_first_play : FnScope N__law_first_play ["_law_web_here", "_law_k", "_law_calls_here", "_law_plan", "_law_stand", "_law_purse", "_law_pot_here"] (defScope s__law_first_play) := ⟨rfl, rfl, rfl, by decide +kernel, rfl, by decide +kernel, by decide +kernel⟩
def t__law_first_play (K : Frag) : TS := (tSeq (tAsg (tCB rInt1 (tCons (tOp (rIn K false) (tVar 4) (tVar 2)) tNil)) (gName 7))
    (tSeq (tFor (iRng1 (tCons (tC (.int 12)) tNil)) (gName 8) (tSeq (tIfS (tTest (tOp rEq (tCB (rLenS K) (tCons (tOp (rIx K) (tOp (rIx K) (tVar 0) (tC (.int 0))) (tVar 4)) tNil)) (tC (.int 0)))) (tRet (tOp rGe (tVar 5) (tFn (sp__law_due_at K) (tCons (tOp (rIx K) (tOp (rIx K) (tVar 0) (tC (.int 3))) (tVar 4)) (tCons (tVar 1) tNil))))) tNext)
    (tSeq (tIfS (tTest (tOp rGe (tVar 8) (tMethR (g1 K) "due_by" (sp_CallFirst_due_by K) E0 (tVar 3) (tCons (tOp rAdd (tVar 7) (tC (.int 1))) tNil)))) (tRet (tC (.bl false))) tNext)
    (tSeq (tAsg (tOp (rIx K) (tOp (rIx K) (tVar 0) (tC (.int 1))) (tVar 4)) (gName 9))
    (tSeq (tAsg (tTup (tCons (tFn (sp__law_draw K) (tCons (tVar 6) (tCons (tOp rAdd (tOp rSub (tVar 1) (tVar 5)) (tC (.int 1))) tNil))) (tCons (tOp (rIx K) (tVar 9) (tFn (sp__law_draw K) (tCons (tVar 6) (tCons (tCB (rLenS K) (tCons (tVar 9) tNil)) tNil)))) tNil))) (gName 10))
    (tSeq (tAsg (tMethR (g1 K) "falls" (sp_CallFirst_falls K) E0 (tVar 3) (tCons (tVar 4) (tCons (tVar 5) tNil))) (gName 11))
    (tSeq (tAsg (tFn (sp__law_move K) (tCons (tVar 0) (tCons (tVar 4) (tCons (tVar 5) (tCons (tCallI (g1 K) (sp_CallFirst___call__ K) (tVar 3) (tCons (tVar 4) (tCons (tVar 5) tNil))) (tCons (tVar 10) tNil)))))) (gName 12))
    (tSeq (tAsg (tMethR (g1 K) "falls" (sp_CallFirst_falls K) E0 (tVar 3) (tCons (tOp (rIx K) (tVar 12) (tC (.int 0))) (tCons (tOp (rIx K) (tVar 12) (tC (.int 1))) tNil))) (gName 13))
    (tSeq (tIfS (tOr (tTest (tOp rIsN (tVar 13) (tC .non))) (tTest (tOp rGt (tOp (rIx K) (tVar 13) (tC (.int 0))) (tOp (rIx K) (tVar 11) (tC (.int 0)))))) (tRet (tC (.bl false))) tNext)
    (tSeq (tIfS (tAnd (tTest (tOp (rIn K true) (tVar 4) (tVar 2))) (tAnd (tTest (tOp rEq (tOp (rIx K) (tVar 13) (tC (.int 0))) (tOp (rIx K) (tVar 11) (tC (.int 0))))) (tTest (tOp rGe (tOp (rIx K) (tVar 13) (tC (.int 1))) (tOp (rIx K) (tVar 11) (tC (.int 1))))))) (tRet (tC (.bl false))) tNext)
    (tSeq (tAsg (tOp (rIx K) (tVar 12) (tC (.int 0))) (gName 4))
    (tSeq (tAsg (tOp (rIx K) (tVar 12) (tC (.int 1))) (gName 5))
    (tAsg (tOp rAdd (tVar 7) (tCB rInt1 (tCons (tOp (rIn K false) (tVar 4) (tVar 2)) tNil))) (gName 7))))))))))))))
    (tRet (tC (.bl true)))))
section
variable {w : World} {K : Frag} {mg : Str → Option Value} {vs : List V} {H : Hp} {Q : VK} {E : XK}
theorem len__law_first_play (h : sp__law_first_play K vs H Q E) : vs.length = 7 := by obtain ⟨pot, lw, L, A, k, c, C, l, X, rk, ct, o, v, a, rfl, _⟩ := h; rfl
theorem pure__law_first_play (T : Txt w K mg) (h : sp__law_first_play K vs H Q E) : t__law_first_play K (E1 Q) (start N__law_first_play vs) H := by
  obtain ⟨pot, lw, L, A, k, c, C, l, X, rk, ct, o, v, a, rfl, po, ho, h0, h1, h2, h3, kk⟩ := h
  have hP := po.hpot
  have ok := wSrt_ok po.hw.ok
  refine q_asg (v := .int (cb C v)) (ev_is (ev_intB (ev_inC (ev_var rfl) (ev_var rfl) po.hc)) rfl) fun H1 e1 => ?_
  refine q_forR1 (n := 12) (ea_cons ev_c ea_nil) ⟨by decide, by decide⟩ (fun t σ' H' => Dr pot H H' ∧ ∃ (v a vis : Int) (v8 v9 v10 v11 v12 v13 : Option V), 0 ≤ v ∧ v < L.n ∧ X v ≤ a ∧ a ≤ k ∧ 0 ≤ vis ∧ I1 C (maxR (wSrt L) rk) k v t vis (k - (a - X v)) (rk v) ∧ σ' = [some (.ref lw), some (.int k), some (.ref c), some (.ref o), some (.int v), some (.int a), some (.ref pot), some (.int vis), v8, v9, v10, v11, v12, v13])
    (fun H2 e2 => ⟨.of hP (e1.trans e2), v, a, _, _, _, _, _, _, _, h0, h1, h2, h3, (by unfold cb; split <;> omega), I1.start po.r0.1 (by omega) (maxR_le (W := wSrt L) h0 h1), rfl⟩) ?_ ?_
  · clear h0 h1 h2 h3 e1
    clear v a
    rintro t σ' H2 ht ⟨e2, v, a, vis, v8, v9, v10, v11, v12, v13, h0, h1, h2, h3, hvis, inv, rfl⟩
    have hX0 := (po.ev.rng v h0 h1).1
    have a0 : 0 ≤ a := by omega
    have hr0 := po.up.nn v h0 h1
    have hw2 := po.hw.dr hP e2
    refine q_when (et_Lend (ev_var rfl) hw2 (ev_var rfl) h0 h1) (fun hb H3 e3 => ?_) fun hb H3 e3 => ?_
    · have hm : (wSrt L).mov v = false := by simpa using hb
      have hw3 := hw2.mono e3
      refine s_ret (v := .bl true) (ev_is (ev_I (ev_var rfl) (ev_fn (ea_cons (ev_LD (ev_var rfl) hw3 (ev_var rfl) h0 h1) (ea_cons (ev_var rfl) ea_nil)) (spv_law_due_at (hw3.hg v h0 h1)))) ?_) fun H4 e4 => kk H4 ((e2.then e3).then e4)
      have := po.ev.fix.ends v h0 h1 hm
      have e9 : dueAt (L.due v) (k + 1) ≤ a := by
        have e10 : dueAt ((wSrt L).due v) (k + 1) ≤ a := by omega
        exact e10
      show V.bl (decide (dueAt (L.due v) (k + 1) ≤ a)) = _
      rw [decide_eq_true e9]
    · have hm : (wSrt L).mov v = true := by simpa using hb
      have e03 := e2.then e3
      have hmL : L.S v ≠ [] := ne_S po.hw.ok h0 h1 (by rw [← wSrt_mov po.hw.ok h0 h1]; exact hm)
      refine q_not (et_is (et_test (ev_I (ev_var rfl) (ev_due_by (ev_var rfl) (ho.dr hP e03) (ev_I (ev_var rfl) ev_c) (by omega) po.r0))) (decide_eq_false ?_)) fun H4 e4 => ?_
      · have := inv.due po.r0.1 (by omega) hr0
        omega
      have e04 := e03.then e4
      refine q_asg (ev_LS (ev_var rfl) (po.hw.dr hP e04) (ev_var rfl) h0 h1) fun H5 e5 => ?_
      have e05 := e04.then e5
      refine q_asgD (evd_answer (m := k - a + 1) (l := L.S v) e05.pot (fun H1 e => ev_var rfl) (ev_I (ev_I (ev_var rfl) (ev_var rfl)) ev_c) (by omega) rfl ((po.hw.dr hP e05).fs v h0 h1).1 hmL) fun y H6 e6 ⟨pa, qq, wt, ey, hpa, q0, q1, hwt⟩ => ?_
      subst ey
      have e06 := e05.trans e6
      have hwS : wt ∈ (wSrt L).S v := (mem_sS po.hw.ok h0 h1).mpr hwt
      refine q_asgX (evx_falls1 (ev_var rfl) (ho.dr hP e06) (ev_var rfl) (ev_var rfl) h0 h1 a0 h3) fun yb H7 e7 hyb => ?_
      rcases hyb with ⟨z, _⟩ | ⟨_, pb, eyb, hpb⟩
      · omega
      subst eyb
      have e07 := e06.then e7
      have hpa7 := ex_t e7 hpa
      have kp := first_keep ok po.ev po.up h0 h1 hm a0 h3 h2 q0 (by omega) hwS
      simp only at kp
      refine q_asgX (P := fun y H' => ∃ z, y = .ref z ∧ SqT K H' z [.int (movS (wSrt L) v (fBid (wSrt L) C X rk v a) qq (fStep (wSrt L) C X rk v a) wt), .int (movA (wSrt L) v a (fBid (wSrt L) C X rk v a) qq)]) (evx_fnX (ea_1 (ev_var rfl) (ea_1 (ev_var rfl) (ea_1 (ev_var rfl) (eax_cons (P2 := fun x r H' => ∃ px, x = .ref px ∧ r = [.ref pa] ∧ SqT K H' px [.int (fBid (wSrt L) C X rk v a), .int (fStep (wSrt L) C X rk v a)] ∧ SqT K H' pa [.int qq, .int wt]) (evx_call1 (ev_var rfl) (ho.dr hP e07) (ev_var rfl) (ev_var rfl) h0 h1 hm a0 h3)
        fun x H8 e8 ⟨px, ex, hpx⟩ => fun H9 e9 Q3 q3 => ⟨_, rfl, q3 _ H9 (Ex.refl _) ⟨px, ex, rfl, ex_t e9 hpx, ex_t (e8.trans e9) hpa7⟩⟩))))
        fun vs H8 e8 ⟨_, eu1, _, eu2, _, eu3, x, r, eu4, px, ex, er, hpx, hpa8⟩ => ?_) fun y H8 e8 ⟨pz, ey, hpz⟩ => ?_
      · subst eu1
        subst eu2
        subst eu3
        subst eu4
        subst ex
        subst er
        exact spx_law_move (po.hw.dr hP (e07.then e8)) hpx hpa8 h0 h1
      subst ey
      have e08 := e07.then e8
      generalize hs' : movS (wSrt L) v (fBid (wSrt L) C X rk v a) qq (fStep (wSrt L) C X rk v a) wt = s at hpz kp
      generalize hb' : movA (wSrt L) v a (fBid (wSrt L) C X rk v a) qq = b at hpz kp
      obtain ⟨s0, s1, b0, bk, hfall, hstrict⟩ := kp
      have hXs := (po.ev.rng s s0 s1).1
      refine q_asgX (evx_falls1 (ev_var rfl) (ho.dr hP e08) (ev_ix (ev_var rfl) ev_c (.t hpz) rfl) (ev_ix (ev_var rfl) ev_c (.t hpz) rfl) s0 s1 b0 bk) fun yc H9 e9 hyc => ?_
      rcases hyc with ⟨z, _⟩ | ⟨_, pc, eyc, hpc⟩
      · omega
      subst eyc
      have e79 := (e8.trans e9)
      have hpb9 := ex_t e79 hpb
      refine q_not (et_is (b := false) (et_or (a := false) (b := false) (et_is (et_test (ev_isN (ev_var rfl))) rfl) fun _ => et_is (et_test (ev_I (ev_ix (ev_var rfl) ev_c (.t hpc) rfl) (ev_ix (ev_var rfl) ev_c (.t hpb9) rfl))) (decide_eq_false (by omega))) rfl) fun H10 e10 => ?_
      have e010 := (e08.then e9).then e10
      have hpc10 := ex_t e10 hpc
      have hpb10 := ex_t e10 hpb9
      have hc10 := po.hc.dr e010 po.hl
      refine q_not (et_is (et_and (et_test (ev_ninC (ev_var rfl) (ev_var rfl) hc10)) fun _ => et_and (et_test (ev_eqI (ev_ix (ev_var rfl) ev_c (.t hpc10) rfl) (ev_ix (ev_var rfl) ev_c (.t hpb10) rfl))) fun _ => et_test (ev_I (ev_ix (ev_var rfl) ev_c (.t hpc10) rfl) (ev_ix (ev_var rfl) ev_c (.t hpb10) rfl))) ?_) fun H11 e11 => ?_
      · cases hcv : C v with
        | true => rfl
        | false =>
          by_cases z : k - (b - X s) = k - (a - X v)
          · have := hstrict hcv (by omega)
            rw [decide_eq_true z, decide_eq_false (show ¬ rk v ≤ rk s by omega)]
            rfl
          · rw [decide_eq_false z]
            rfl
      have hpz11 := ex_t ((e9.trans e10).trans e11) hpz
      refine q_asg (ev_ix (ev_var rfl) ev_c (.t hpz11) rfl) fun H12 e12 => ?_
      refine q_asg (ev_ix (ev_var rfl) ev_c (.t (ex_t e12 hpz11)) rfl) fun H13 e13 => ?_
      have e013 := (e010.then e11).then (e12.trans e13)
      refine s_asg (v := .int (vis + cb C s)) (ev_is (ev_I (ev_var rfl) (ev_intB (ev_inC (ev_var rfl) (ev_var rfl) (po.hc.dr e013 po.hl)))) rfl) fun H14 e14 => ?_
      refine ⟨e013.then e14, s, b, vis + cb C s, _, _, _, _, _, _, s0, s1, by omega, bk, (by unfold cb; split <;> omega), ?_, rfl⟩
      have stp := inv.step (v' := s) (u' := k - (b - X s)) (r' := rk s) po.r0.1 hr0 (maxR_le (W := wSrt L) s0 s1) (by omega) fun hcv => ⟨?_, fun z => hstrict hcv (by omega)⟩
      · exact stp
      · by_cases z : rk v = 0
        · have := po.up.zero v h0 h1 z hm hcv
          omega
        · omega
  · rintro σ' H2 ⟨e2, v, a, vis, v8, v9, v10, v11, v12, v13, h0, h1, h2, h3, hvis, inv, rfl⟩
    exact s_ret ev_c fun H3 e3 => kk H3 (e2.then e3)
end
theorem d__law_first_play {w : World} {K : Frag} {mg : Str → Option Value} {base : Heap} (T : Txt w K mg) {f : Addr} {cdv : Value} {A : Around} {outer : List Env} {s : Shared} {H : Hp} {E : XK} (hr : Room 6 (A.deeper (envOfC "_law_first_play" (defScope s__law_first_play) s.heap.objs.size f cdv))) :
    PSs (cxOf CX0 PP w K mg base N__law_first_play "_law_first_play" (defScope s__law_first_play) f cdv A outer s H E).nox (defBody s__law_first_play) (t__law_first_play K) := by
  exact (pss_cons (ps_set (i := 7) sc__law_first_play.nd rfl (Or.inl rfl) (pe_callTy call_int1 (by rfl) (T.free (memOf 4 rfl)) b_int (pa_cons (pe_cmpR op_in_seq (pv 4) (pv 2) (by rfl)) pa_nil)))
    (pss_cons (ps_for PassesOwn.never rfl (pi_range1 (by rfl) (T.free (memOf 1 rfl)) (pa_cons pe_int pa_nil)) (pg_name (i := 8) sc__law_first_play.nd rfl (Or.inl rfl)) (pss_cons (ps_if (pt_cmpR op_eq (pe_callB call_len_seq (by rfl) (T.free (memOf 0 rfl)) b_len (pa_cons (pe_ix ix_seq (pe_ix ix_seq (pv 0) pe_int (fun _ _ => rfl)) (pv 4) (fun _ _ => rfl)) pa_nil)) pe_int (nomark _)) (pss_one (ps_ret (pe_cmpR op_ge (pv 5) (pe_f (ok__law_due_at T) hr (by decide) (by rfl) (pa_cons (pe_ix ix_seq (pe_ix ix_seq (pv 0) pe_int (fun _ _ => rfl)) (pv 4) (fun _ _ => rfl)) (pa_cons (pv 1) pa_nil))) (nomark _)))) pss_nil)
    (pss_cons (ps_if (pt_cmpR op_ge (pv 8) (pe_methN (pv 3) T.c1 (T.m1 (memOf 1 rfl)).1 (ok_CallFirst_due_by T) hr (by decide) (pa_cons (pe_op op_add (pv 7) pe_int) pa_nil)) (nomark _)) (pss_one (ps_ret pe_bl)) pss_nil)
    (pss_cons (ps_set (i := 9) sc__law_first_play.nd rfl (Or.inl rfl) (pe_ix ix_seq (pe_ix ix_seq (pv 0) pe_int (fun _ _ => rfl)) (pv 4) (fun _ _ => rfl)))
    (pss_cons (ps_set (i := 10) sc__law_first_play.nd rfl (Or.inl rfl) (pe_tup (pa_cons (pe_f (ok__law_draw T) hr (by decide) (by rfl) (pa_cons (pv 6) (pa_cons (pe_op op_add (pe_op op_sub (pv 1) (pv 5)) pe_int) pa_nil))) (pa_cons (pe_ix ix_seq (pv 9) (pe_f (ok__law_draw T) hr (by decide) (by rfl) (pa_cons (pv 6) (pa_cons (pe_callB call_len_seq (by rfl) (T.free (memOf 0 rfl)) b_len (pa_cons (pv 9) pa_nil)) pa_nil))) (fun _ _ => rfl)) pa_nil))))
    (pss_cons (ps_set (i := 11) sc__law_first_play.nd rfl (Or.inl rfl) (pe_methN (pv 3) T.c1 (T.m1 (memOf 2 rfl)).1 (ok_CallFirst_falls T) hr (by decide) (pa_cons (pv 4) (pa_cons (pv 5) pa_nil))))
    (pss_cons (ps_set (i := 12) sc__law_first_play.nd rfl (Or.inl rfl) (pe_f (ok__law_move T) hr (by decide) (by rfl) (pa_cons (pv 0) (pa_cons (pv 4) (pa_cons (pv 5) (pa_cons (pe_callN (pv 3) (callO_of (T.m1 (memOf 0 rfl))) (ok_CallFirst___call__ T) hr (by decide) (pa_cons (pv 4) (pa_cons (pv 5) pa_nil))) (pa_cons (pv 10) pa_nil)))))))
    (pss_cons (ps_set (i := 13) sc__law_first_play.nd rfl (Or.inl rfl) (pe_methN (pv 3) T.c1 (T.m1 (memOf 2 rfl)).1 (ok_CallFirst_falls T) hr (by decide) (pa_cons (pe_ix ix_seq (pv 12) pe_int (fun _ _ => rfl)) (pa_cons (pe_ix ix_seq (pv 12) pe_int (fun _ _ => rfl)) pa_nil))))
    (pss_cons (ps_if (PW.pt (pw_or (pt_cmpR op_isN1 (pv 13) pe_non (nomark _)) (pw_or1 (pt_cmpR op_gt (pe_ix ix_seq (pv 13) pe_int (fun _ _ => rfl)) (pe_ix ix_seq (pv 11) pe_int (fun _ _ => rfl)) (nomark _))))) (pss_one (ps_ret pe_bl)) pss_nil)
    (pss_cons (ps_if (PW.pt (pw_and (pt_cmpR op_notIn_seq (pv 4) (pv 2) (by rfl)) (pw_and (pt_cmpR op_eq (pe_ix ix_seq (pv 13) pe_int (fun _ _ => rfl)) (pe_ix ix_seq (pv 11) pe_int (fun _ _ => rfl)) (nomark _)) (pw_and1 (pt_cmpR op_ge (pe_ix ix_seq (pv 13) pe_int (fun _ _ => rfl)) (pe_ix ix_seq (pv 11) pe_int (fun _ _ => rfl)) (nomark _)))))) (pss_one (ps_ret pe_bl)) pss_nil)
    (pss_cons (ps_set (i := 4) sc__law_first_play.nd rfl (Or.inl rfl) (pe_ix ix_seq (pv 12) pe_int (fun _ _ => rfl)))
    (pss_cons (ps_set (i := 5) sc__law_first_play.nd rfl (Or.inl rfl) (pe_ix ix_seq (pv 12) pe_int (fun _ _ => rfl)))
    (pss_one (ps_set (i := 7) sc__law_first_play.nd rfl (Or.inl rfl) (pe_op op_add (pv 7) (pe_callTy call_int1 (by rfl) (T.free (memOf 4 rfl)) b_int (pa_cons (pe_cmpR op_in_seq (pv 4) (pv 2) (by rfl)) pa_nil)))))))))))))))))
    (pss_one (ps_ret pe_bl))))
theorem ok__law_first_play {w : World} {K : Frag} {mg : Str → Option Value} {base : Heap} (T : Txt w K mg) : GF PP w K mg base "_law_first_play" 7 (sp__law_first_play K) := by
  have F := T.def_ (d := xf__law_first_play) (memOf 97 rfl) rfl
  refine ⟨fnr_mk (k := 6) F sc__law_first_play (fun _ _ _ _ _ _ us hl => match us, hl with | [_, _, _, _, _, _, _], _ => rfl) (fun vs H Q E h => len__law_first_play h) (fun cdv A outer s H vs Q E hr h => ⟨t__law_first_play K, d__law_first_play T hr, pure__law_first_play T h⟩), ?_, T.glo (memOf 71 rfl)⟩
  obtain ⟨fd, F⟩ := F
  exact F.kp
end Pw
end

section
set_option maxRecDepth 100000
set_option maxHeartbeats 4000000
/-! The law's second play. -/
namespace Pw
open PySem PySem.Spec L2 Evl StX PwS SlX
open PyProof.Rows hiding St
theorem ev_gtL {K : Frag} {σ : L2.St} {H : Hp} {ta tb : TE} {i j k l : Int} (ha : EvL ta σ H [.int i, .int j]) (hb : ∀ H1, Ex H H1 → EvL tb σ H1 [.int k, .int l]) : Ev (tOp (rGtL K) ta tb) σ H (.bl (decide (k < i ∨ (k = i ∧ l < j)))) := fun H1 e Q q =>
  ha H1 e _ fun p H2 _ e2 h2 => hb H2 (e.trans e2) H2 (Ex.refl _) _ fun p' H3 _ e3 h3 => ⟨p, p', i, j, k, l, rfl, rfl, sq_of (e3 _ _ h2), sq_of h3, q H3 (e2.trans e3)⟩
theorem ev_eqT2 {K : Frag} {σ : L2.St} {H : Hp} {ta tb : TE} {p q : Addr} {l l' : List Int} (ha : Ev ta σ H (.ref p)) (hb : Ev tb σ H (.ref q)) (hp : SqT K H p (intV l)) (hq : SqT K H q (intV l')) : Ev (tOp (rEqD K) ta tb) σ H (.bl (decide (l = l'))) :=
  ev_op ha hb fun H1 e Q k => ⟨_, _, Dp.tup (ex_t e hp) (dpAll_ints l), Dp.tup (ex_t e hq) (dpAll_ints l'), shaped_tup l, shaped_tup l', by
    have : PyData.eqv (.tuple (l.map .int)) (.tuple (l'.map .int)) = decide (l = l') := by rw [PyData.eqv, eqvAll_ints]
    rw [this]
    exact k H1 (Ex.refl _)⟩
def sp__law_second_play (K : Frag) : Sp := fun vs H Q _ => ∃ pot lw L A k c C l r X rk ct o v a, vs = [.ref lw, .int k, .ref c, .ref r, .ref o, .int v, .int a, .ref pot] ∧ PlayOk K H pot lw c L A C l k X rk ct ∧ LL K pot H r (rowV L.n X) ∧ PlQ K (g2 K) H o (wSrt L) C k X rk ct ∧ 0 ≤ v ∧ v < L.n ∧ 0 ≤ a ∧ a < X v ∧ a ≤ k ∧ ∀ H', Dr pot H H' → Q (.bl true) H'
/-! _law_second_play -/
abbrev N__law_second_play : List Str := ["_law_web_here", "_law_k", "_law_calls_here", "_law_row", "_law_plan", "_law_stand", "_law_purse", "_law_pot_here", "_law_visits", "_law_moves", "_law_steps", "_law_answer", "_law_before", "_law_state", "_law_after"]
abbrev s__law_second_play : Stmt := top 105
theorem sc__law_second_play : FnScope N__law_second_play ["_law_web_here", "_law_k", "_law_calls_here", "_law_row", "_law_plan", "_law_stand", "_law_purse", "_law_pot_here"] (defScope s__law_second_play) := ⟨rfl, rfl, rfl, by decide +kernel, rfl, by decide +kernel, by decide +kernel⟩
def t__law_second_play (K : Frag) : TS := (tSeq (tAsg (tCB rInt1 (tCons (tOp (rIn K false) (tVar 5) (tVar 2)) tNil)) (gName 8))
    (tSeq (tFor (iRng1 (tCons (tC (.int 12)) tNil)) (gName 9) (tSeq (tIfS (tTest (tOp rGt (tVar 8) (tMethR (g2 K) "visits_at_most" (sp_CallSecond_visits_at_most K) E0 (tVar 4) tNil))) (tRet (tC (.bl false))) tNext)
    (tSeq (tIfS (tTest (tOp rEq (tCB (rLenS K) (tCons (tOp (rIx K) (tOp (rIx K) (tVar 0) (tC (.int 0))) (tVar 5)) tNil)) (tC (.int 0)))) (tRet (tOp rLt (tVar 6) (tFn (sp__law_due_at K) (tCons (tOp (rIx K) (tOp (rIx K) (tVar 0) (tC (.int 3))) (tVar 5)) (tCons (tVar 1) tNil))))) tNext)
    (tSeq (tAsg (tOp (rIx K) (tOp (rIx K) (tVar 0) (tC (.int 0))) (tVar 5)) (gName 10))
    (tSeq (tAsg (tTup (tCons (tFn (sp__law_draw K) (tCons (tVar 7) (tCons (tOp rAdd (tVar 6) (tC (.int 1))) tNil))) (tCons (tOp (rIx K) (tVar 10) (tFn (sp__law_draw K) (tCons (tVar 7) (tCons (tCB (rLenS K) (tCons (tVar 10) tNil)) tNil)))) tNil))) (gName 11))
    (tSeq (tAsg (tMethR (g2 K) "falls" (sp_CallSecond_falls K) E0 (tVar 4) (tCons (tVar 5) (tCons (tVar 6) tNil))) (gName 12))
    (tSeq (tAsg (tFn (sp__law_move K) (tCons (tVar 0) (tCons (tVar 5) (tCons (tVar 6) (tCons (tVar 11) (tCons (tCallI (g2 K) (sp_CallSecond___call__ K) (tVar 4) (tCons (tVar 5) (tCons (tVar 6) tNil))) tNil)))))) (gName 13))
    (tSeq (tAsg (tMethR (g2 K) "falls" (sp_CallSecond_falls K) E0 (tVar 4) (tCons (tOp (rIx K) (tVar 13) (tC (.int 0))) (tCons (tOp (rIx K) (tVar 13) (tC (.int 1))) tNil))) (gName 14))
    (tSeq (tIfS (tOr (tTest (tOp rIsN (tVar 14) (tC .non))) (tOr (tTest (tOp rGe (tOp (rIx K) (tVar 13) (tC (.int 1))) (tOp (rIx K) (tVar 3) (tOp (rIx K) (tVar 13) (tC (.int 0)))))) (tTest (tOp (rGtL K) (tCB (rListS K) (tCons (tVar 14) tNil)) (tCB (rListS K) (tCons (tVar 12) tNil)))))) (tRet (tC (.bl false))) tNext)
    (tSeq (tIfS (tAnd (tTest (tOp (rIn K false) (tVar 5) (tVar 2))) (tTest (tOp (rEqD K) (tVar 14) (tVar 12)))) (tRet (tC (.bl false))) tNext)
    (tSeq (tAsg (tOp (rIx K) (tVar 13) (tC (.int 0))) (gName 5))
    (tSeq (tAsg (tOp (rIx K) (tVar 13) (tC (.int 1))) (gName 6))
    (tAsg (tOp rAdd (tVar 8) (tCB rInt1 (tCons (tOp (rIn K false) (tVar 5) (tVar 2)) tNil))) (gName 8))))))))))))))
    (tRet (tC (.bl true)))))
section
variable {w : World} {K : Frag} {mg : Str → Option Value} {vs : List V} {H : Hp} {Q : VK} {E : XK}
theorem len__law_second_play (h : sp__law_second_play K vs H Q E) : vs.length = 8 := by obtain ⟨pot, lw, L, A, k, c, C, l, r, X, rk, ct, o, v, a, rfl, _⟩ := h; rfl
theorem pure__law_second_play (T : Txt w K mg) (h : sp__law_second_play K vs H Q E) : t__law_second_play K (E1 Q) (start N__law_second_play vs) H := by
  obtain ⟨pot, lw, L, A, k, c, C, l, r, X, rk, ct, o, v, a, rfl, po, hrow, ho, h0, h1, h2, h3, h4, kk⟩ := h
  have hP := po.hpot
  have ok := wSrt_ok po.hw.ok
  have hXv := (po.ev.rng v h0 h1).2
  refine q_asg (v := .int (cb C v)) (ev_is (ev_intB (ev_inC (ev_var rfl) (ev_var rfl) po.hc)) rfl) fun H1 e1 => ?_
  refine q_forR1 (n := 12) (ea_cons ev_c ea_nil) ⟨by decide, by decide⟩ (fun t σ' H' => Dr pot H H' ∧ ∃ (v a vis : Int) (v9 v10 v11 v12 v13 v14 : Option V), 0 ≤ v ∧ v < L.n ∧ 0 ≤ a ∧ a < X v ∧ a ≤ k ∧ I2 C (maxR (wSrt L) ct) k v vis (k - (X v - 1 - a)) (ct v) ∧ σ' = [some (.ref lw), some (.int k), some (.ref c), some (.ref r), some (.ref o), some (.int v), some (.int a), some (.ref pot), some (.int vis), v9, v10, v11, v12, v13, v14])
    (fun H2 e2 => ⟨.of hP (e1.trans e2), v, a, _, _, _, _, _, _, _, h0, h1, h2, h3, h4, I2.start po.r1.1 (by omega) (maxR_le (W := wSrt L) h0 h1), rfl⟩) ?_ ?_
  · clear h0 h1 h2 h3 h4 e1 hXv
    clear v a
    rintro t σ' H2 ht ⟨e2, v, a, vis, v9, v10, v11, v12, v13, v14, h0, h1, h2, h3, h4, inv, rfl⟩
    have hXv := (po.ev.rng v h0 h1).2
    have hr0 := po.dn.nn v h0 h1
    have hct : (wSrt L).mov v = true → 1 ≤ ct v := fun hm => by
      by_cases z : ct v = 0
      · have := po.dn.zero v h0 h1 z hm
        omega
      · omega
    refine q_not (et_is (et_test (ev_I (ev_var rfl) (ev_visits (ev_var rfl) (ho.dr hP e2) po.r1))) (decide_eq_false ?_)) fun H3 e3 => ?_
    · have := inv.due po.r1.1 (by omega) hr0 fun hcv => hct (po.hc.ok v hcv).2.2
      omega
    have e03 := e2.then e3
    have hw3 := po.hw.dr hP e03
    refine q_when (et_Lend (ev_var rfl) hw3 (ev_var rfl) h0 h1) (fun hb H4 e4 => ?_) fun hb H4 e4 => ?_
    · have hm : (wSrt L).mov v = false := by simpa using hb
      have hw4 := hw3.mono e4
      refine s_ret (v := .bl true) (ev_is (ev_I (ev_var rfl) (ev_fn (ea_cons (ev_LD (ev_var rfl) hw4 (ev_var rfl) h0 h1) (ea_cons (ev_var rfl) ea_nil)) (spv_law_due_at (hw4.hg v h0 h1)))) ?_) fun H5 e5 => kk H5 ((e03.then e4).then e5)
      have := po.ev.fix.ends v h0 h1 hm
      have e9 : a < dueAt (L.due v) (k + 1) := by
        have e10 : a < dueAt ((wSrt L).due v) (k + 1) := by omega
        exact e10
      show V.bl (decide (a < dueAt (L.due v) (k + 1))) = _
      rw [decide_eq_true e9]
    · have hm : (wSrt L).mov v = true := by simpa using hb
      have e04 := e03.then e4
      have hmL : L.F v ≠ [] := mov_ne (by rw [← wSrt_mov po.hw.ok h0 h1]; exact hm)
      refine q_asg (ev_LF (ev_var rfl) (po.hw.dr hP e04) (ev_var rfl) h0 h1) fun H5 e5 => ?_
      have e05 := e04.then e5
      refine q_asgD (evd_answer (m := a + 1) (l := L.F v) e05.pot (fun H1 e => ev_var rfl) (ev_I (ev_var rfl) ev_c) (by omega) rfl ((po.hw.dr hP e05).ff v h0 h1).1 hmL) fun y H6 e6 ⟨pa, qq, wt, ey, hpa, q0, q1, hwt⟩ => ?_
      subst ey
      have e06 := e05.trans e6
      have hwS : wt ∈ (wSrt L).F v := (mem_sF po.hw.ok h0 h1).mpr hwt
      refine q_asgX (evx_falls2 (ev_var rfl) (ho.dr hP e06) (ev_var rfl) (ev_var rfl) h0 h1 h2 h4) fun yb H7 e7 hyb => ?_
      rcases hyb with ⟨z, _⟩ | ⟨_, pb, eyb, hpb⟩
      · omega
      subst eyb
      have e07 := e06.then e7
      have hpa7 := ex_t e7 hpa
      have kp := second_keep ok po.ev po.dn h0 h1 hm h2 h4 h3 q0 (by omega) hwS
      simp only at kp
      refine q_asgX (P := fun y H' => ∃ z, y = .ref z ∧ SqT K H' z [.int (movS (wSrt L) v qq (sBid (wSrt L) C k X ct v a) wt (sStep (wSrt L) C X ct v a)), .int (movA (wSrt L) v a qq (sBid (wSrt L) C k X ct v a))]) (evx_fnX (ea_1 (ev_var rfl) (ea_1 (ev_var rfl) (ea_1 (ev_var rfl) (ea_1 (ev_var rfl) (ea_last (evx_call2 (ev_var rfl) (ho.dr hP e07) (ev_var rfl) (ev_var rfl) h0 h1 hm h2 h4))))))
        fun vs H8 e8 ⟨_, eu1, _, eu2, _, eu3, _, eu4, x, eu5, px, ex, hpx⟩ => ?_) fun y H8 e8 ⟨pz, ey, hpz⟩ => ?_
      · subst eu1
        subst eu2
        subst eu3
        subst eu4
        subst eu5
        subst ex
        exact spx_law_move (po.hw.dr hP (e07.then e8)) (ex_t e8 hpa7) hpx h0 h1
      subst ey
      have e08 := e07.then e8
      generalize hs' : movS (wSrt L) v qq (sBid (wSrt L) C k X ct v a) wt (sStep (wSrt L) C X ct v a) = s at hpz kp
      generalize hb' : movA (wSrt L) v a qq (sBid (wSrt L) C k X ct v a) = b at hpz kp
      obtain ⟨s0, s1, b0, bk, hfall, hct1, hstrict⟩ := kp
      refine q_asgX (evx_falls2 (ev_var rfl) (ho.dr hP e08) (ev_ix (ev_var rfl) ev_c (.t hpz) rfl) (ev_ix (ev_var rfl) ev_c (.t hpz) rfl) s0 s1 b0 bk) fun yc H9 e9 hyc => ?_
      rcases hyc with ⟨z, _⟩ | ⟨_, pc, eyc, hpc⟩
      · omega
      subst eyc
      have e79 := (e8.trans e9)
      have hpb9 := ex_t e79 hpb
      have hpz9 := ex_t e9 hpz
      have e09 := e08.then e9
      have hrow9 := hrow.exp e09.ex
      refine q_not (et_is (b := false) (et_or (a := false) (b := false) (et_is (et_test (ev_isN (ev_var rfl))) rfl) fun _ => et_is (et_or (a := false) (b := false) (et_is (et_test (ev_I (ev_ix (ev_var rfl) ev_c (.t hpz9) rfl) (ev_ixR (ev_var rfl) (ev_ix (ev_var rfl) ev_c (.t hpz9) rfl) (.l hrow9.2) s0 s1))) (decide_eq_false (by omega))) fun _ => et_is (et_test (ev_gtL (el_listA (ev_var rfl) (.t hpc)) fun H10 e10 => el_listA (ev_var rfl) (.t (ex_t e10 hpb9)))) ?_) rfl) rfl) fun H10 e10 => ?_
      · refine decide_eq_false fun z => ?_
        rcases z with z | ⟨z1, z2⟩
        · omega
        · have := (hstrict (by omega)).1
          omega
      have e010 := e09.then e10
      have hpc10 := ex_t e10 hpc
      have hpb10 := ex_t e10 hpb9
      have hc10 := po.hc.dr e010 po.hl
      refine q_not (et_is (et_and (et_test (ev_inC (ev_var rfl) (ev_var rfl) hc10)) fun _ => et_test (ev_eqT2 (l := [k - (X s - 1 - b), ct s]) (l' := [k - (X v - 1 - a), ct v]) (ev_var rfl) (ev_var rfl) hpc10 hpb10)) ?_) fun H11 e11 => ?_
      · cases hcv : C v with
        | false => rfl
        | true =>
          have : ¬ ([k - (X s - 1 - b), ct s] = [k - (X v - 1 - a), ct v]) := fun z => by
            simp only [List.cons.injEq, and_true] at z
            have := (hstrict (by omega)).2 hcv
            omega
          rw [decide_eq_false this]
          rfl
      have hpz11 := ex_t (e10.trans e11) hpz9
      refine q_asg (ev_ix (ev_var rfl) ev_c (.t hpz11) rfl) fun H12 e12 => ?_
      refine q_asg (ev_ix (ev_var rfl) ev_c (.t (ex_t e12 hpz11)) rfl) fun H13 e13 => ?_
      have e013 := (e010.then e11).then (e12.trans e13)
      refine s_asg (v := .int (vis + cb C s)) (ev_is (ev_I (ev_var rfl) (ev_intB (ev_inC (ev_var rfl) (ev_var rfl) (po.hc.dr e013 po.hl)))) rfl) fun H14 e14 => ?_
      exact ⟨e013.then e14, s, b, vis + cb C s, _, _, _, _, _, _, s0, s1, b0, by omega, bk, inv.step (v' := s) (u' := k - (X s - 1 - b)) (r' := ct s) po.r1.1 hct1 (maxR_le (W := wSrt L) s0 s1) (by omega) fun z => hstrict (by omega), rfl⟩
  · rintro σ' H2 ⟨e2, v, a, vis, v9, v10, v11, v12, v13, v14, h0, h1, h2, h3, h4, inv, rfl⟩
    exact s_ret ev_c fun H3 e3 => kk H3 (e2.then e3)
end
theorem d__law_second_play {w : World} {K : Frag} {mg : Str → Option Value} {base : Heap} (T : Txt w K mg) {f : Addr} {cdv : Value} {A : Around} {outer : List Env} {s : Shared} {H : Hp} {E : XK} (hr : Room 6 (A.deeper (envOfC "_law_second_play" (defScope s__law_second_play) s.heap.objs.size f cdv))) :
    PSs (cxOf CX0 PP w K mg base N__law_second_play "_law_second_play" (defScope s__law_second_play) f cdv A outer s H E).nox (defBody s__law_second_play) (t__law_second_play K) := by
  exact (pss_cons (ps_set (i := 8) sc__law_second_play.nd rfl (Or.inl rfl) (pe_callTy call_int1 (by rfl) (T.free (memOf 4 rfl)) b_int (pa_cons (pe_cmpR op_in_seq (pv 5) (pv 2) (by rfl)) pa_nil)))
    (pss_cons (ps_for PassesOwn.never rfl (pi_range1 (by rfl) (T.free (memOf 1 rfl)) (pa_cons pe_int pa_nil)) (pg_name (i := 9) sc__law_second_play.nd rfl (Or.inl rfl)) (pss_cons (ps_if (pt_cmpR op_gt (pv 8) (pe_methN0 (pv 4) T.c2 (T.m2 (memOf 1 rfl)).1 (ok_CallSecond_visits_at_most T) hr (by decide)) (nomark _)) (pss_one (ps_ret pe_bl)) pss_nil)
    (pss_cons (ps_if (pt_cmpR op_eq (pe_callB call_len_seq (by rfl) (T.free (memOf 0 rfl)) b_len (pa_cons (pe_ix ix_seq (pe_ix ix_seq (pv 0) pe_int (fun _ _ => rfl)) (pv 5) (fun _ _ => rfl)) pa_nil)) pe_int (nomark _)) (pss_one (ps_ret (pe_cmpR op_lt (pv 6) (pe_f (ok__law_due_at T) hr (by decide) (by rfl) (pa_cons (pe_ix ix_seq (pe_ix ix_seq (pv 0) pe_int (fun _ _ => rfl)) (pv 5) (fun _ _ => rfl)) (pa_cons (pv 1) pa_nil))) (nomark _)))) pss_nil)
    (pss_cons (ps_set (i := 10) sc__law_second_play.nd rfl (Or.inl rfl) (pe_ix ix_seq (pe_ix ix_seq (pv 0) pe_int (fun _ _ => rfl)) (pv 5) (fun _ _ => rfl)))
    (pss_cons (ps_set (i := 11) sc__law_second_play.nd rfl (Or.inl rfl) (pe_tup (pa_cons (pe_f (ok__law_draw T) hr (by decide) (by rfl) (pa_cons (pv 7) (pa_cons (pe_op op_add (pv 6) pe_int) pa_nil))) (pa_cons (pe_ix ix_seq (pv 10) (pe_f (ok__law_draw T) hr (by decide) (by rfl) (pa_cons (pv 7) (pa_cons (pe_callB call_len_seq (by rfl) (T.free (memOf 0 rfl)) b_len (pa_cons (pv 10) pa_nil)) pa_nil))) (fun _ _ => rfl)) pa_nil))))
    (pss_cons (ps_set (i := 12) sc__law_second_play.nd rfl (Or.inl rfl) (pe_methN (pv 4) T.c2 (T.m2 (memOf 2 rfl)).1 (ok_CallSecond_falls T) hr (by decide) (pa_cons (pv 5) (pa_cons (pv 6) pa_nil))))
    (pss_cons (ps_set (i := 13) sc__law_second_play.nd rfl (Or.inl rfl) (pe_f (ok__law_move T) hr (by decide) (by rfl) (pa_cons (pv 0) (pa_cons (pv 5) (pa_cons (pv 6) (pa_cons (pv 11) (pa_cons (pe_callN (pv 4) (callO_of (T.m2 (memOf 0 rfl))) (ok_CallSecond___call__ T) hr (by decide) (pa_cons (pv 5) (pa_cons (pv 6) pa_nil))) pa_nil)))))))
    (pss_cons (ps_set (i := 14) sc__law_second_play.nd rfl (Or.inl rfl) (pe_methN (pv 4) T.c2 (T.m2 (memOf 2 rfl)).1 (ok_CallSecond_falls T) hr (by decide) (pa_cons (pe_ix ix_seq (pv 13) pe_int (fun _ _ => rfl)) (pa_cons (pe_ix ix_seq (pv 13) pe_int (fun _ _ => rfl)) pa_nil))))
    (pss_cons (ps_if (PW.pt (pw_or (pt_cmpR op_isN1 (pv 14) pe_non (nomark _)) (pw_or (pt_cmpR op_ge (pe_ix ix_seq (pv 13) pe_int (fun _ _ => rfl)) (pe_ix ix_seq (pv 3) (pe_ix ix_seq (pv 13) pe_int (fun _ _ => rfl)) (fun _ _ => rfl)) (nomark _)) (pw_or1 (pt_cmpR (op_gtL hr.units) (pe_callTy call_list_of (by rfl) (T.free (memOf 7 rfl)) b_list (pa_cons (pv 14) pa_nil)) (pe_callTy call_list_of (by rfl) (T.free (memOf 7 rfl)) b_list (pa_cons (pv 12) pa_nil)) (nomark _)))))) (pss_one (ps_ret pe_bl)) pss_nil)
    (pss_cons (ps_if (PW.pt (pw_and (pt_cmpR op_in_seq (pv 5) (pv 2) (by rfl)) (pw_and1 (pt_cmpR (op_eqD hr.units) (pv 14) (pv 12) (nomark _))))) (pss_one (ps_ret pe_bl)) pss_nil)
    (pss_cons (ps_set (i := 5) sc__law_second_play.nd rfl (Or.inl rfl) (pe_ix ix_seq (pv 13) pe_int (fun _ _ => rfl)))
    (pss_cons (ps_set (i := 6) sc__law_second_play.nd rfl (Or.inl rfl) (pe_ix ix_seq (pv 13) pe_int (fun _ _ => rfl)))
    (pss_one (ps_set (i := 8) sc__law_second_play.nd rfl (Or.inl rfl) (pe_op op_add (pv 8) (pe_callTy call_int1 (by rfl) (T.free (memOf 4 rfl)) b_int (pa_cons (pe_cmpR op_in_seq (pv 5) (pv 2) (by rfl)) pa_nil)))))))))))))))))
    (pss_one (ps_ret pe_bl))))
theorem ok__law_second_play {w : World} {K : Frag} {mg : Str → Option Value} {base : Heap} (T : Txt w K mg) : GF PP w K mg base "_law_second_play" 7 (sp__law_second_play K) := by
  have F := T.def_ (d := xf__law_second_play) (memOf 98 rfl) rfl
  refine ⟨fnr_mk (k := 6) F sc__law_second_play (fun _ _ _ _ _ _ us hl => match us, hl with | [_, _, _, _, _, _, _, _], _ => rfl) (fun vs H Q E h => len__law_second_play h) (fun cdv A outer s H vs Q E hr h => ⟨t__law_second_play K, d__law_second_play T hr, pure__law_second_play T h⟩), ?_, T.glo (memOf 72 rfl)⟩
  obtain ⟨fd, F⟩ := F
  exact F.kp
end Pw
end

section
set_option maxRecDepth 100000
set_option maxHeartbeats 4000000
/-! The law. -/
namespace Pw
open PySem PySem.Spec L2 Evl StX PwS SlX
open PyProof.Rows hiding St
theorem q_appD {K : Frag} {pot : Addr} {σ : L2.St} {H : Hp} {te ta : TE} {P : V → Hp → Prop} {tz : TS} {D : Ends} {l : Addr} {xs : List V} (hl : H l = some (.lst xs)) (hn : l ≠ pot) (hP : Pot H pot) (ha : Ev ta σ H (.ref l)) (h : ∀ H1, Ex H H1 → EvD pot te σ H1 P) (hz : xs.length < 100000) (k : ∀ v H1, Dr pot H H1 → P v H1 → tz D σ (upd H1 l (.lst (xs ++ [v])))) : tSeq (tDrop (tBM K "list" rAppend ta (tCons te tNil))) tz D σ H :=
  s_appD (D := { D with nx := tz D }) hl hn hP ha h hz k
theorem evd_lst2 {pot : Addr} {σ : L2.St} {H : Hp} {ta tb : TE} {P1 : V → Hp → Prop} {P2 : Hp → V → Hp → Prop} (h1 : EvD pot ta σ H P1) (h2 : ∀ x H1, Dr pot H H1 → P1 x H1 → EvD pot tb σ H1 (P2 H1)) :
    EvD pot (tLst (tCons ta (tCons tb tNil))) σ H (fun y H' => ∃ p x z H1 H2, y = .ref p ∧ Dr pot H H1 ∧ P1 x H1 ∧ Dr pot H1 H2 ∧ P2 H1 z H2 ∧ H2 p = none ∧ H' = upd H2 p (.lst [x, z])) := fun Q q =>
  h1 _ fun x H1 e1 p1 => h2 x H1 e1 p1 _ fun z H2 e2 p2 => ⟨by show 2 ≤ sizeLine; decide, fun p hp => q _ _ ((e1.trans e2).then (Ex.new hp)) ⟨p, x, z, H1, H2, rfl, e1, p1, e2, p2, hp, rfl⟩⟩
theorem maxR_rng {W : Wb} {f : Int → Int} {b : Int} (hn : 0 < W.n) (h : ∀ v : Int, 0 ≤ v → v < W.n → 0 ≤ f v ∧ f v ≤ b) : 0 ≤ maxR W f ∧ maxR W f ≤ b := by
  have hne : (ran W.n).map f ≠ [] := fun z => by
    have := congrArg List.length z
    rw [List.length_map, ran_len] at this
    simp at this
    omega
  have := maxOf_mem hne
  obtain ⟨v, hv, e⟩ := List.mem_map.mp this
  have h2 := h v (mem_ran.mp hv).1 (mem_ran.mp hv).2
  unfold maxR
  omega
theorem spx_law_pot {K : Frag} {H : Hp} {a : Addr} {ns : List Int} (h : SqL K H a (intV ns)) : SpX (sp__law_pot K) [.ref a] H (fun y H' => ∃ p, y = .ref p ∧ Pot H' p) := fun H1 e Q q E => ⟨a, ns, rfl, ex_l e h, fun p H2 e2 hp _ => q _ H2 e2 ⟨p, rfl, hp⟩⟩
theorem shaped3 (a b : Int) (w : Str) (hw : PyData.strOk w = true) : SeqAt.shaped (.tuple [.int a, .str w, .int b]) = true := by
  unfold SeqAt.shaped
  simp [PyData.canLay0, PyData.canLayAll0, PyData.depth, PyData.depthAll, hw]
theorem eqv3 (a b : Int) (w : Str) : PyData.eqv (.tuple [.int a, .str w, .int b]) (.tuple [.int a, .str w, .int b]) = true := by
  simp [PyData.eqv, PyData.eqvAll]
theorem dWord_str (W : Wb) (k : Int) (s : DS) : ∃ w, dWord W k s = .str w ∧ PyData.strOk w = true := by
  unfold dWord
  split
  · exact ⟨_, rfl, by decide +kernel⟩
  · split <;> exact ⟨_, rfl, by decide +kernel⟩
theorem ev_ne3 {K : Frag} {σ : L2.St} {H : Hp} {ta tb : TE} {p : Addr} {a b : Int} {w : V} (hw : ∃ s, w = .str s ∧ PyData.strOk s = true) (ha : Ev ta σ H (.ref p)) (hp : SqT K H p [.int a, w, .int b]) (hb : EvX tb σ H (fun y H' => ∃ q, y = .ref q ∧ SqT K H' q [.int a, w, .int b])) : Ev (tOp (rNeD K) ta tb) σ H (.bl false) := fun H1 e Q q => by
  obtain ⟨s, rfl, hok⟩ := hw
  refine ha H1 e _ fun H2 e2 => hb H2 (e.trans e2) _ fun y H3 e3 ⟨q', ey, hq⟩ => ?_
  subst ey
  refine ⟨.tuple [.int a, .str s, .int b], .tuple [.int a, .str s, .int b], .tup (ex_t ((e.trans e2).trans e3) hp) (.cons (.int a) (.cons (.str s) (.cons (.int b) .nil))), .tup hq (.cons (.int a) (.cons (.str s) (.cons (.int b) .nil))), shaped3 _ _ _ hok, shaped3 _ _ _ hok, ?_⟩
  rw [eqv3]
  exact q H3 (e2.trans e3)
theorem ev_neT {K : Frag} {σ : L2.St} {H : Hp} {ta tb : TE} {l : List Int} (ha : EvX ta σ H (fun y H' => ∃ q, y = .ref q ∧ SqT K H' q (intV l))) (hb : ∀ H1, Ex H H1 → EvX tb σ H1 (fun y H' => ∃ q, y = .ref q ∧ SqT K H' q (intV l))) : Ev (tOp (rNeD K) ta tb) σ H (.bl false) := fun H1 e Q q => by
  refine ha H1 e _ fun x H2 e2 ⟨p, ex, hp⟩ => hb H2 (e.trans e2) H2 (Ex.refl _) _ fun y H3 e3 ⟨q', ey, hq⟩ => ?_
  subst ex
  subst ey
  refine ⟨.tuple (l.map .int), .tuple (l.map .int), .tup (ex_t e3 hp) (dpAll_ints l), .tup hq (dpAll_ints l), shaped_tup l, shaped_tup l, ?_⟩
  have : PyData.eqv (.tuple (l.map .int)) (.tuple (l.map .int)) = true := by rw [PyData.eqv, eqvAll_ints]; exact decide_eq_true rfl
  rw [this]
  exact q H3 (e2.trans e3)
theorem ev_maxP {K : Frag} {σ : L2.St} {H : Hp} {ta : TE} {p : Addr} {W : Wb} {f : Int → Int} (ha : Ev ta σ H (.ref p)) (hs : SqL K H p (rowV W.n f)) (hn : 0 < W.n) : Ev (tCB (rMax K) (tCons ta tNil)) σ H (.int (maxR W f)) := by
  refine ev_maxS (l := (ran W.n).map f) ha (by rw [← rowV_int]; exact hs) fun z => ?_
  have := congrArg List.length z
  rw [List.length_map, ran_len] at this
  simp at this
  omega
/-- .. of fewer than 1000 -/
theorem rowV_nth {n : Nat} {zs : List Int} (h : zs.length = n) : intV zs = rowV n (nth zs) := by
  rw [rowV_int, map_nth h]
theorem spx_call_duel {K : Frag} {H : Hp} {a c : Addr} {W : Wb} {A : WA} {k v p m : Int} {C : Int → Bool} {l : List Int} (hw : WebAt K H a W A) (hc : CAt K H c W C l) (hk : 0 ≤ k) (hk2 : k ≤ 60) (h0 : 0 ≤ v) (h1 : v < W.n) (h2 : 0 ≤ p) (h3 : p ≤ k) (h4 : 0 ≤ m) (h5 : m ≤ 5000) :
    SpX (sp_call_duel K) [.ref a, .int k, .ref c, .int v, .int p, .int m] H (fun y H' => ∃ q, y = .ref q ∧ SqT K H' q [.int (dRun W C k (eX W C k) (eR W C k) (eC W C k) v p m.toNat).vis, dWord W k (dRun W C k (eX W C k) (eR W C k) (eC W C k) v p m.toNat), .int (dRun W C k (eX W C k) (eR W C k) (eC W C k) v p m.toNat).mov]) :=
  fun H1 e Q qq E => ⟨a, W, A, k, c, C, l, v, p, m, rfl, hw.mono e, hc.mono e, hk, hk2, h0, h1, h2, h3, h4, h5, fun q H2 e2 h => qq _ H2 e2 ⟨q, rfl, h⟩⟩
theorem spx_law_duel {K : Frag} {H : Hp} {pot lw c pp r q1 q2 : Addr} {L : Wb} {A : LWA} {C : Int → Bool} {l : List Int} {X rk ct : Int → Int} {k v a m : Int} (hw : LawW K H pot lw L A) (hc : CAt K H c (wSrt L) C l) (hp : LParts K H pot pp r q1 q2 L.n X rk ct) (h0 : 0 ≤ v) (h1 : v < L.n) (h2 : 0 ≤ a) (h3 : a ≤ k) (h4 : 0 ≤ m) (h5 : m ≤ 5000) :
    SpX (sp__law_duel K) [.ref lw, .int k, .ref c, .ref pp, .int v, .int a, .int m] H (fun y H' => ∃ q, y = .ref q ∧ SqT K H' q [.int (dRun (wSrt L) C k X rk ct v a m.toNat).vis, dWord (wSrt L) k (dRun (wSrt L) C k X rk ct v a m.toNat), .int (dRun (wSrt L) C k X rk ct v a m.toNat).mov]) :=
  fun H1 e Q qq E => ⟨pot, lw, L, A, k, c, C, l, pp, r, q1, q2, X, rk, ct, v, a, m, rfl, hw.mono e, hc.mono e, hp.mono e, h0, h1, h2, h3, h4, h5, fun q H2 e2 h => qq _ H2 e2 ⟨q, rfl, h⟩⟩
theorem spv_law_states {K : Frag} {H : Hp} {pot lw c pp r q1 q2 o1 o2 : Addr} {L : Wb} {A : LWA} {C : Int → Bool} {l : List Int} {X rk ct : Int → Int} {k : Int} (hw : LawW K H pot lw L A) (hc : CAt K H c (wSrt L) C l) (hp : LParts K H pot pp r q1 q2 L.n X rk ct) (h1 : PlQ K (g1 K) H o1 (wSrt L) C k X rk ct) (h2 : PlQ K (g2 K) H o2 (wSrt L) C k X rk ct) (hk : 0 ≤ k) (hk2 : k ≤ 1000) :
    SpV (sp__law_states K) [.ref lw, .int k, .ref c, .ref pp, .ref o1, .ref o2] H (.bl true) := fun H1 e Q q E => ⟨pot, lw, L, A, k, c, C, l, pp, r, q1, q2, X, rk, ct, o1, o2, rfl, hw.mono e, hc.mono e, hp.mono e, h1.mono e, h2.mono e, hk, hk2, fun H2 e2 => q H2 e2⟩
theorem evx_planrow {K : Frag} {σ : L2.St} {H : Hp} {ta : TE} {q : Addr} {W : Wb} {C : Int → Bool} {k : Int} {X rk ct : Int → Int} (c : PlC K (g1 K)) (ha : Ev ta σ H (.ref q)) (h : PlQ K (g1 K) H q W C k X rk ct) : EvX (tProp (g1 K) (sp_Plan_row K) [] E0 ta) σ H (fun y H' => ∃ r, y = .ref r ∧ SqT K H' r (intV ((ran W.n).map X))) := by
  obtain ⟨dx, r, p, B, hp⟩ := h
  exact fun H1 e Q qq => ha H1 e _ fun H2 e2 => ⟨q, dx, _, rfl, (e.trans e2) _ _ hp.at_, q, g1 K, dx, r, p, W, C, k, X, rk, ct, B, rfl, c, hp.mono (e.trans e2), fun H3 e3 => qq _ H3 (e2.trans e3) ⟨r, rfl, by rw [← rowV_int]; exact ex_t ((e.trans e2).trans e3) hp.row⟩⟩
/-- one.row, as the getter's def -/
theorem okp_row {w : World} {K : Frag} {mg : Str → Option Value} {base : Heap} (T : Txt w K mg) : ∃ fd, FnOk PP w K mg base CX0 1 (pgG K (gN K) "row") fd ["self"] (sp_Plan_row K) ∧ Binds K fd ["self"] [] := by
  obtain ⟨fd, F⟩ := T.def_ (d := xm_Plan_row) (memOf 58 rfl) rfl
  refine ⟨fd, F.ok sc_Plan_row (fun vs H Q E h => len_Plan_row h) (fun cdv A outer s H vs Q E hr h => ⟨t_Plan_row K, (d_Plan_row T hr).nox, pure_Plan_row T h⟩), F.bindsN fun _ _ _ _ _ _ us hl => match us, hl with | [_], _ => rfl⟩
theorem pe_row1 {X : Cx} {j : Nat} {e : Expr} {ta : TE} {pos : Pos} (hX : X.prog = PP) (T : Txt X.w X.K X.mg) (he : PE X e ta) (hr : Room j X.A) (hj : 2 ≤ j) (hab : attributeBase e "row" X.env (eval e X.env) = eval e X.env := by rfl) : PE X (.Attribute e "row" pos) (tProp (g1 X.K) (sp_Plan_row X.K) [] E0 ta) := by
  obtain ⟨fd, F, B⟩ := okp_row (base := X.base) T
  have q := T.row1
  rw [← hX] at F
  exact pe_prop he T.c1 ⟨q.at_, q.get, q.tk, q.rc⟩ F (hr.mono hj) B .nil pass0 hab
def sp_law (K : Frag) : Sp := fun vs H Q _ => ∃ a ns, vs = [.ref a] ∧ SqL K H a (intV ns) ∧ ∀ H', Q (.bl true) H'
/-! law -/
abbrev N_law : List Str := ["_law_script", "_law_pot_here", "_law_web_here", "_law_k", "_law_calls_here", "_law_built_here", "_law_due_here", "_law_parts", "_law_paper", "_law_one", "_law_two", "_law_turn", "_law_stand", "_law_purse", "_law_most", "_law_told", "_law_other", "_law_part"]
abbrev s_law : Stmt := top 106
theorem sc_law : FnScope N_law ["_law_script"] (defScope s_law) := ⟨rfl, rfl, rfl, by decide +kernel, rfl, by decide +kernel, by decide +kernel⟩
def t_law (K : Frag) : TS := (tSeq (tAsg (tFn (sp__law_pot K) (tCons (tVar 0) tNil)) (gName 1))
    (tSeq (tAsg (tFn (sp__law_web K) (tCons (tVar 1) (tCons (tC (.int 4)) (tCons (tC (.bl false)) tNil)))) (gName 2))
    (tSeq (tAsg (tFn (sp__law_draw K) (tCons (tVar 1) (tCons (tC (.int 5)) tNil))) (gName 3))
    (tSeq (tAsg (tFn (sp__law_calls K) (tCons (tVar 1) (tCons (tVar 2) tNil))) (gName 4))
    (tSeq (tAsg (tFn (sp__law_built K) (tCons (tVar 2) tNil)) (gName 5))
    (tSeq (tAsg (tFn (sp__law_forever K) (tCons (tVar 2) (tCons (tVar 3) (tCons (tVar 4) tNil)))) (gName 6))
    (tSeq (tAsg (tLst (tCons (tVar 6) (tCons (tOp (rIx K) (tFn (sp__law_call_ranks K) (tCons (tVar 2) (tCons (tVar 3) (tCons (tVar 4) (tCons (tVar 6) tNil))))) (tC (.int 0))) (tCons (tOp (rIx K) (tFn (sp__law_call_counts K) (tCons (tVar 2) (tCons (tVar 3) (tCons (tVar 4) (tCons (tVar 6) tNil))))) (tC (.int 0))) tNil)))) (gName 7))
    (tSeq (tAsg (ClX.tCMeth (gP K) (sp_CallPaper_of K) E0 (tC (.ref (gP K))) (tCons (tVar 5) (tCons (tVar 3) (tCons (tVar 4) tNil)))) (gName 8))
    (tSeq (tAsg (tMakeR (g1 K) (sp_CallFirst___init__ K) E0 (tCons (tVar 8) tNil)) (gName 9))
    (tSeq (tAsg (tMakeR (g2 K) (sp_CallSecond___init__ K) E0 (tCons (tVar 8) tNil)) (gName 10))
    (tSeq (tIfS (tNot (tB (tFn (sp__law_states K) (tCons (tVar 2) (tCons (tVar 3) (tCons (tVar 4) (tCons (tVar 7) (tCons (tVar 9) (tCons (tVar 10) tNil))))))))) (tRet (tC (.bl false))) tNext)
    (tSeq (tIfS (tTest (tOp rNe (tMethR (g1 K) "due_by" (sp_CallFirst_due_by K) E0 (tVar 9) (tCons (tC (.int 3)) tNil)) (tOp rAdd (tOp rMul (tOp rAdd (tCB (rMax K) (tCons (tOp (rIx K) (tVar 7) (tC (.int 1))) tNil)) (tC (.int 1))) (tC (.int 3))) (tOp rMul (tCB (rMax K) (tCons (tOp (rIx K) (tVar 7) (tC (.int 1))) tNil)) (tVar 3))))) (tRet (tC (.bl false))) tNext)
    (tSeq (tIfS (tOr (tTest (tOp rNe (tMethR (g2 K) "visits_at_most" (sp_CallSecond_visits_at_most K) E0 (tVar 10) tNil) (tOp rMul (tCB (rMax K) (tCons (tOp (rIx K) (tVar 7) (tC (.int 2))) tNil)) (tOp rAdd (tVar 3) (tC (.int 1)))))) (tTest (tOp (rNeD K) (tProp (g1 K) (sp_Plan_row K) [] E0 (tVar 9)) (tCB (rTupS K) (tCons (tVar 6) tNil))))) (tRet (tC (.bl false))) tNext)
    (tSeq (tFor (iRng1 (tCons (tC (.int 3)) tNil)) (gName 11) (tSeq (tAsg (tFn (sp__law_draw K) (tCons (tVar 1) (tCons (tCB (rLenS K) (tCons (tVar 6) tNil)) tNil))) (gName 12))
    (tSeq (tAsg (tFn (sp__law_draw K) (tCons (tVar 1) (tCons (tOp rAdd (tVar 3) (tC (.int 1))) tNil))) (gName 13))
    (tSeq (tAsg (tFn (sp__law_draw K) (tCons (tVar 1) (tCons (tC (.int 13)) tNil))) (gName 14))
    (tSeq (tAsg (tFn (sp_call_duel K) (tCons (tVar 5) (tCons (tVar 3) (tCons (tVar 4) (tCons (tVar 12) (tCons (tVar 13) (tCons (tVar 14) tNil))))))) (gName 15))
    (tSeq (tIfS (tOr (tNot (tB (tCB (rIsi K) (tCons (tVar 15) (tCons (tC (.ty "tuple")) tNil))))) (tTest (tOp (rNeD K) (tVar 15) (tFn (sp__law_duel K) (tCons (tVar 2) (tCons (tVar 3) (tCons (tVar 4) (tCons (tVar 7) (tCons (tVar 12) (tCons (tVar 13) (tCons (tVar 14) tNil))))))))))) (tRet (tC (.bl false))) tNext)
    (tIfS (tTest (tOp rGe (tVar 13) (tOp (rIx K) (tVar 6) (tVar 12)))) (tIfS (tNot (tB (tFn (sp__law_first_play K) (tCons (tVar 2) (tCons (tVar 3) (tCons (tVar 4) (tCons (tVar 9) (tCons (tVar 12) (tCons (tVar 13) (tCons (tVar 1) tNil)))))))))) (tRet (tC (.bl false))) tNext) (tIfS (tNot (tB (tFn (sp__law_second_play K) (tCons (tVar 2) (tCons (tVar 3) (tCons (tVar 4) (tCons (tVar 6) (tCons (tVar 10) (tCons (tVar 12) (tCons (tVar 13) (tCons (tVar 1) tNil))))))))))) (tRet (tC (.bl false))) tNext))))))))
    (tSeq (tAsg (tLst (tCons (tLc (iSeq K (tVar 6)) (gName 17) tYes (tFn (sp__law_draw K) (tCons (tVar 1) (tCons (tOp rAdd (tVar 3) (tC (.int 2))) tNil))) [17]) (tCons (tLc (iSeq K (tVar 6)) (gName 17) tYes (tFn (sp__law_draw K) (tCons (tVar 1) (tCons (tC (.int 3)) tNil))) [17]) tNil))) (gName 7))
    (tSeq (tDrop (tBM K "list" rAppend (tVar 7) (tCons (tLc (iSeq K (tVar 6)) (gName 17) tYes (tFn (sp__law_draw K) (tCons (tVar 1) (tCons (tC (.int 3)) tNil))) [17]) tNil)))
    (tSeq (tAsg (tMakeR (gP K) (sp_CallPaper___init__ K) E0 (tCons (tVar 5) (tCons (tVar 3) (tCons (tVar 4) (tCons (tOp (rIx K) (tVar 7) (tC (.int 0))) (tCons (tOp (rIx K) (tVar 7) (tC (.int 1))) (tCons (tOp (rIx K) (tVar 7) (tC (.int 2))) tNil))))))) (gName 16))
    (tRet (tFn (sp__law_states K) (tCons (tVar 2) (tCons (tVar 3) (tCons (tVar 4) (tCons (tVar 7) (tCons (tMakeR (g1 K) (sp_CallFirst___init__ K) E0 (tCons (tVar 16) tNil)) (tCons (tMakeR (g2 K) (sp_CallSecond___init__ K) E0 (tCons (tVar 16) tNil)) tNil)))))))))))))))))))))))))
section
variable {w : World} {K : Frag} {mg : Str → Option Value} {vs : List V} {H : Hp} {Q : VK} {E : XK}
theorem len_law (h : sp_law K vs H Q E) : vs.length = 1 := by obtain ⟨a, ns, rfl, _⟩ := h; rfl
theorem pure_law (T : Txt w K mg) (h : sp_law K vs H Q E) : t_law K (E1 Q) (start N_law vs) H := by
  obtain ⟨a, ns, rfl, hs, kk⟩ := h
  refine q_asgX (evx_fn (ea_cons (ev_var rfl) ea_nil) (spx_law_pot hs)) fun y H1 e1 ⟨pot, ey, hP1⟩ => ?_
  subst ey
  clear hs e1
  refine q_asgD (P := fun y H' => ∃ lw L A, y = .ref lw ∧ LawW K H' pot lw L A ∧ L.n ≤ 4) (fun Q2 q2 => ⟨_, rfl, pot, rfl, hP1, fun lw H' L A _ e hW hn => q2 _ H' e ⟨lw, L, A, rfl, hW, hn⟩⟩) fun y H2 e2 ⟨lw, L, A, ey, hw2, hn4⟩ => ?_
  subst ey
  have hpos := hw2.ok.pos
  have okW := wSrt_ok hw2.ok
  refine q_asgD (evd_draw (ev_var rfl) ev_c (by decide) e2.pot) fun y H3 e3 ⟨k, ey, k0, k5⟩ => ?_
  subst ey
  have hw3 := hw2.dr e2.pot e3
  refine q_asgD (P := fun y H' => ∃ c C l, y = .ref c ∧ LL K pot H' c (intV l) ∧ CAt K H' c (wSrt L) C l) (fun Q2 q2 => ⟨_, rfl, _, rfl, pot, lw, L, A, rfl, e3.pot, hw3, fun p H' C l np e hp hm hl hok => q2 _ H' e ⟨p, C, l, rfl, ⟨e3.pot.ne np, sq_of hp⟩, ⟨.lst hp, hm, hl, hok⟩⟩⟩) fun y H4 e4 ⟨c, C, l, ey, hcl, hc4⟩ => ?_
  subst ey
  have hP4 := e4.pot
  have hw4 := hw3.dr e3.pot e4
  clear hw3 hw2 e2 e3 hP1
  refine q_asgX (P := fun y H' => ∃ p B, y = .ref p ∧ WebAt K H' p (wSrt L) B) (evx_fn (ea_cons (ev_var rfl) ea_nil) fun H5 e5 Q2 q2 E => ⟨pot, lw, L, A, rfl, hw4.mono e5, fun p H' B e hB => q2 _ H' e ⟨p, B, rfl, hB⟩⟩) fun y H5 e5 ⟨bw, B, ey, hB5⟩ => ?_
  subst ey
  refine q_asgX (evx_fn (ea_cons (ev_var rfl) (ea_cons (ev_var rfl) (ea_cons (ev_var rfl) ea_nil))) (spx_law_forever (hw4.mono e5) (hc4.mono e5) k0 (by omega))) fun y H6 e6 ⟨pr, ey, npr, hpr6, hev⟩ => ?_
  subst ey
  have e46 := e5.trans e6
  have hP6 := hP4.mono e46
  have npr' := (hP4.mono e5).ne npr
  have hXr := hev.rng
  refine q_asgX (P := fun y H' => ∃ pp p1 p2, y = .ref pp ∧ LParts K H' pot pp pr p1 p2 L.n (eX (wSrt L) C k) (eR (wSrt L) C k) (eC (wSrt L) C k)) (fun H7 e7 Q2 q2 => ⟨_, rfl, ?_⟩) fun y H7 e7 ⟨pp, q1, q2, ey, hpp7⟩ => ?_
  · have e47 := e46.trans e7
    refine evx_ix (K := K) (i := 0) (P' := fun y H' => ∃ p1, y = .ref p1 ∧ H7 p1 = none ∧ H' p1 = some (.lst (rowV L.n (eR (wSrt L) C k)))) (evx_fn (ea_cons (ev_var rfl) (ea_cons (ev_var rfl) (ea_cons (ev_var rfl) (ea_cons (ev_var rfl) ea_nil)))) (spx_law_call_ranks (hw4.mono e47) (hc4.mono e47) (.lst (e7 _ _ hpr6)) k0 (by omega))) (fun y H8 e8 ⟨p, p1, z, ey, n1, h1, h2⟩ => ⟨p, _, _, ey, .l h1, rfl, p1, rfl, n1, h2⟩) H7 (Ex.refl _) _ fun y1 H8 e8 ⟨p1, ey1, n1, h1⟩ => ?_
    have e48 := e47.trans e8
    refine evx_ix (K := K) (i := 0) (P' := fun y H' => ∃ p2, y = .ref p2 ∧ H8 p2 = none ∧ H' p2 = some (.lst (rowV L.n (eC (wSrt L) C k)))) (evx_fn (ea_cons (ev_var rfl) (ea_cons (ev_var rfl) (ea_cons (ev_var rfl) (ea_cons (ev_var rfl) ea_nil)))) (spx_law_call_counts (hw4.mono e48) (hc4.mono e48) (.lst ((e7.trans e8) _ _ hpr6)) k0 (by omega) hXr)) (fun y H9 e9 ⟨p, p2, z, ey, n2, h1, h2⟩ => ⟨p, _, _, ey, .l h1, rfl, p2, rfl, n2, h2⟩) H8 (Ex.refl _) _ fun y2 H9 e9 ⟨p2, ey2, n2, h2⟩ => ?_
    subst ey1
    subst ey2
    refine ⟨by show 3 ≤ sizeLine; decide, fun t ht => q2 _ _ ((e8.trans e9).trans (Ex.new ht)) ⟨t, p1, p2, rfl, ⟨(hP4.mono (e48.trans e9)).ne ht, sq_of upd_same⟩, ⟨npr', sq_of ((Ex.new ht) _ _ ((e7.trans (e8.trans e9)) _ _ hpr6))⟩, ⟨(hP4.mono e47).ne n1, sq_of ((Ex.new ht) _ _ (e9 _ _ h1))⟩, ⟨(hP4.mono e48).ne n2, sq_of ((Ex.new ht) _ _ h2)⟩⟩⟩
  subst ey
  have e47 := e46.trans e7
  refine q_asgX (P := fun y H' => ∃ p B, y = .ref p ∧ IsEver (wSrt L) C (k + 1) (eX (wSrt L) C k) ∧ B.a = bw ∧ PapAt K H' p (wSrt L) C k (eX (wSrt L) C k) (eR (wSrt L) C k) (eC (wSrt L) C k) B) (fun H8 e8 Q2 q2 => ⟨rfl, ea_cons (ev_var rfl) (ea_cons (ev_var rfl) (ea_cons (ev_var rfl) ea_nil)) H8 e8 _ fun H9 e9 => spx_CallPaper_of ((hB5.mono (e6.trans e7)).mono (e8.trans e9)) (hc4.mono (e47.trans (e8.trans e9))) k0 (by omega) H9 (Ex.refl _) Q2 (fun y H4 e4 hp => q2 y H4 (e9.trans e4) hp) E0⟩) fun y H8 e8 ⟨pa, Bp, ey, _, hBp, hpa8⟩ => ?_
  subst ey
  refine q_asgX (evx_mk1 (ev_var rfl) hpa8) fun y H9 e9 ⟨o1, ey, ho1⟩ => ?_
  subst ey
  refine q_asgX (evx_mk2 (ev_var rfl) (hpa8.mono e9)) fun y H10 e10 ⟨o2, ey, ho2⟩ => ?_
  subst ey
  have e710 := e8.trans (e9.trans e10)
  have e410 := e47.trans e710
  have hP := hP4.mono e410
  have hw := hw4.mono e410
  have hc := hc4.mono e410
  have hl := hcl.mono e410
  have hpp := hpp7.mono e710
  have ho1 := ho1.mono e10
  have hB := hB5.mono (e6.trans (e7.trans e710))
  have hrow : LL K pot H10 pr (rowV L.n (eX (wSrt L) C k)) := ⟨npr', sq_of ((e7.trans e710) _ _ hpr6)⟩
  have r0 := maxR_rng (W := wSrt L) (b := 1000) hpos fun v _ _ => ⟨(eR_rng (wSrt L) C k v).1, by have := (eR_rng (wSrt L) C k v).2; have e : (wSrt L).n = L.n := rfl; omega⟩
  have r1 := maxR_rng (W := wSrt L) (b := 1000) hpos fun v _ _ => ⟨(eC_rng (wSrt L) C k v).1, by have := (eC_rng (wSrt L) C k v).2; have e : (wSrt L).n = L.n := rfl; omega⟩
  have po : PlayOk K H10 pot lw c L A C l k (eX (wSrt L) C k) (eR (wSrt L) C k) (eC (wSrt L) C k) := ⟨hP, hw, hc, hl, hev, eR_upper okW hev, eC_lower okW k0 hev, k0, by omega, r0, r1⟩
  refine q_not (et_is (et_not (et_B (ev_fn (ea_cons (ev_var rfl) (ea_cons (ev_var rfl) (ea_cons (ev_var rfl) (ea_cons (ev_var rfl) (ea_cons (ev_var rfl) (ea_cons (ev_var rfl) ea_nil)))))) (spv_law_states hw hc hpp ho1 ho2 k0 (by omega))))) rfl) fun H11 e11 => ?_
  have hpp11 := hpp.mono e11
  have mx1 : ∀ {σ : L2.St} {H' : Hp}, σ[7]? = some (some (.ref pp)) → LParts K H' pot pp pr q1 q2 L.n (eX (wSrt L) C k) (eR (wSrt L) C k) (eC (wSrt L) C k) → Ev (tCB (rMax K) (tCons (tOp (rIx K) (tVar 7) (tC (.int 1))) tNil)) σ H' (.int (maxR (wSrt L) (eR (wSrt L) C k))) := fun h1 h2 => ev_maxP (W := wSrt L) (ev_ix (v := .ref q1) (ev_var h1) ev_c (.l h2.h.2) rfl) h2.h1.2 hpos
  have mx2 : ∀ {σ : L2.St} {H' : Hp}, σ[7]? = some (some (.ref pp)) → LParts K H' pot pp pr q1 q2 L.n (eX (wSrt L) C k) (eR (wSrt L) C k) (eC (wSrt L) C k) → Ev (tCB (rMax K) (tCons (tOp (rIx K) (tVar 7) (tC (.int 2))) tNil)) σ H' (.int (maxR (wSrt L) (eC (wSrt L) C k))) := fun h1 h2 => ev_maxP (W := wSrt L) (ev_ix (v := .ref q2) (ev_var h1) ev_c (.l h2.h.2) rfl) h2.h2.2 hpos
  refine q_not (et_is (et_test (ev_neI (ev_due_by (ev_var rfl) (ho1.mono e11) ev_c (by decide) r0) (ev_I (ev_Ic (ev_I (mx1 rfl hpp11) ev_c) ev_c (by unfold CMul; omega)) (ev_Ic (mx1 rfl hpp11) (ev_var rfl) (by unfold CMul; omega))))) (by simp)) fun H12 e12 => ?_
  have e1012 := e11.trans e12
  refine q_not (et_is (b := false) (et_or (a := false) (b := false) (et_is (et_test (ev_neI (ev_visits (ev_var rfl) (ho2.mono e1012) r1) (ev_Ic (mx2 rfl (hpp.mono e1012)) (ev_I (ev_var rfl) ev_c) (by unfold CMul; omega)))) (by simp)) fun _ => et_test (ev_neT (l := (ran (wSrt L).n).map (eX (wSrt L) C k)) (evx_planrow T.pl1 (ev_var rfl) (ho1.mono e1012)) fun H13 e13 => (evx_tupA (ev_var rfl) ((SqA.l hrow.2).mono (e1012.trans e13))).imp fun y H14 _ ⟨p, ey, hp⟩ => ⟨p, ey, by rw [← rowV_int]; exact hp⟩)) rfl) fun H13 e13 => ?_
  have e1013 := e1012.trans e13
  have hlen : ∀ {σ : L2.St} {H' : Hp}, σ[6]? = some (some (.ref pr)) → LL K pot H' pr (rowV L.n (eX (wSrt L) C k)) → Ev (tCB (rLenS K) (tCons (tVar 6) tNil)) σ H' (.int (L.n : Int)) := fun h1 h2 => ev_lenR (ev_var h1) (.l h2.2)
  refine q_forR1 (n := 3) (ea_cons ev_c ea_nil) ⟨by decide, by decide⟩ (fun t σ' H' => Dr pot H10 H' ∧ ∃ v11 v12 v13 v14 v15, σ' = [some (.ref a), some (.ref pot), some (.ref lw), some (.int k), some (.ref c), some (.ref bw), some (.ref pr), some (.ref pp), some (.ref pa), some (.ref o1), some (.ref o2), v11, v12, v13, v14, v15, none, none]) (fun H14 e14 => ⟨.of hP (e1013.trans e14), _, _, _, _, _, rfl⟩) ?_ ?_
  · rintro t σ' H14 ht ⟨e14, v11, v12, v13, v14, v15, rfl⟩
    refine q_asgD (evd_draw (ev_var rfl) (hlen rfl (hrow.exp e14.ex)) (by omega) e14.pot) fun y H15 e15 ⟨v, ey, v0, v1⟩ => ?_
    subst ey
    refine q_asgD (evd_draw (ev_var rfl) (ev_I (ev_var rfl) ev_c) (by omega) e15.pot) fun y H16 e16 ⟨b, ey, b0, b1'⟩ => ?_
    subst ey
    refine q_asgD (evd_draw (ev_var rfl) ev_c (by decide) e16.pot) fun y H17 e17 ⟨m, ey, m0, m1'⟩ => ?_
    subst ey
    have d17 := e14.trans (e15.trans (e16.trans e17))
    have hB17 : WebAt K H17 bw (wSrt L) B := by
      obtain ⟨_, hn⟩ := hP
      exact webAt_exp d17.ex hn hB
    refine q_asgX (evx_fn (ea_cons (ev_var rfl) (ea_cons (ev_var rfl) (ea_cons (ev_var rfl) (ea_cons (ev_var rfl) (ea_cons (ev_var rfl) (ea_cons (ev_var rfl) ea_nil)))))) (spx_call_duel hB17 (hc.dr d17 hl) k0 (by omega) v0 v1 b0 (by omega) m0 (by omega))) fun y H18 e18 ⟨pd, ey, hpd⟩ => ?_
    subst ey
    have d18 := d17.then e18
    refine q_not (et_is (b := false) (et_or (a := false) (b := false) (et_is (et_not (et_B (ev_isiTup (ev_var rfl) hpd))) rfl) fun _ => et_test (ev_ne3 (dWord_str _ _ _) (ev_var rfl) hpd (evx_fn (ea_cons (ev_var rfl) (ea_cons (ev_var rfl) (ea_cons (ev_var rfl) (ea_cons (ev_var rfl) (ea_cons (ev_var rfl) (ea_cons (ev_var rfl) (ea_cons (ev_var rfl) ea_nil))))))) (spx_law_duel (hw.dr hP d18) (hc.dr d18 hl) (hpp.exp d18.ex) v0 v1 b0 (by omega) m0 (by omega))))) rfl) fun H19 e19 => ?_
    have d19 := d18.then e19
    have po19 : PlayOk K H19 pot lw c L A C l k (eX (wSrt L) C k) (eR (wSrt L) C k) (eC (wSrt L) C k) := ⟨d19.pot, hw.dr hP d19, hc.dr d19 hl, hl.exp d19.ex, hev, po.up, po.dn, k0, by omega, r0, r1⟩
    refine s_if (et_test (ev_I (ev_var rfl) (ev_ixR (ev_var rfl) (ev_var rfl) (.l (hrow.exp d19.ex).2) v0 v1))) (fun hb H20 e20 => ?_) fun hb H20 e20 => ?_
    · have hge := of_decide_eq_true hb
      have d20 := d19.then e20
      have po20 : PlayOk K H20 pot lw c L A C l k (eX (wSrt L) C k) (eR (wSrt L) C k) (eC (wSrt L) C k) := ⟨d20.pot, hw.dr hP d20, hc.dr d20 hl, hl.exp d20.ex, hev, po.up, po.dn, k0, by omega, r0, r1⟩
      exact ⟨_, rfl, _, rfl, _, rfl, _, rfl, _, rfl, _, rfl, _, rfl, pot, lw, L, A, k, c, C, l, _, _, _, o1, v, b, rfl, po20, ho1.dr hP d20, v0, v1, hge, by omega, fun H21 e21 => ⟨true, rfl, d20.trans e21, _, _, _, _, _, rfl⟩⟩
    · have hge := of_decide_eq_false hb
      have d20 := d19.then e20
      have po20 : PlayOk K H20 pot lw c L A C l k (eX (wSrt L) C k) (eR (wSrt L) C k) (eC (wSrt L) C k) := ⟨d20.pot, hw.dr hP d20, hc.dr d20 hl, hl.exp d20.ex, hev, po.up, po.dn, k0, by omega, r0, r1⟩
      exact ⟨_, rfl, _, rfl, _, rfl, _, rfl, _, rfl, _, rfl, _, rfl, _, rfl, pot, lw, L, A, k, c, C, l, pr, _, _, _, o2, v, b, rfl, po20, hrow.exp d20.ex, ho2.dr hP d20, v0, v1, b0, by omega, by omega, fun H21 e21 => ⟨true, rfl, d20.trans e21, _, _, _, _, _, rfl⟩⟩
  · rintro σ' H14 ⟨e14, v11, v12, v13, v14, v15, rfl⟩
    have drawn : ∀ (H' : Hp) (σ : L2.St) (tb : TE) (m : Int), Dr pot H14 H' → (∀ x, wipe ((wipe σ [17]).set 17 (some x)) [17] = wipe σ [17]) → σ[6]? = some (some (.ref pr)) → (∀ (v : V) (H1 : Hp), ((wipe σ [17]).set 17 (some v))[1]? = some (some (.ref pot)) ∧ Ev tb ((wipe σ [17]).set 17 (some v)) H1 (.int m)) → 0 < m →
        EvD pot (tLc (iSeq K (tVar 6)) (gName 17) tYes (tFn (sp__law_draw K) (tCons (tVar 1) (tCons tb tNil))) [17]) σ H' (fun y H'' => ∃ p zs, y = .ref p ∧ H' p = none ∧ H'' p = some (.lst (intV zs)) ∧ zs.length = L.n ∧ ∀ z ∈ zs, 0 ≤ z ∧ z < m) := fun H' σ tb m e hwp h6 hb hm Q2 q2 =>
      evd_lc (p := pr) (xs := rowV L.n (eX (wSrt L) C k)) (Pr := fun z => 0 ≤ z ∧ z < m) e.pot (ev_var h6) (hrow.exp (e14.trans e).ex) (by rw [rowV_len]; omega) hwp (fun v H1 hp1 Q3 q3 => evd_draw (ev_var (hb v H1).1) (hb v H1).2 hm hp1 Q3 fun u H2 e2 ⟨d, eu, d0, d1⟩ => q3 u H2 e2 ⟨d, eu, d0, d1⟩) Q2 fun y H2 e2 ⟨p, zs, ey, np, hp, hl, hz⟩ => q2 y H2 e2 ⟨p, zs, ey, np, hp, by rw [hl, rowV_len], hz⟩
    refine q_asgD (evd_lst2 (drawn H14 _ _ (k + 2) (.refl e14.pot) (fun _ => rfl) rfl (fun v H1 => ⟨rfl, ev_I (ev_var rfl) ev_c⟩) (by omega)) fun x H15 e15 _ => drawn H15 _ _ 3 e15 (fun _ => rfl) rfl (fun v H1 => ⟨rfl, ev_c⟩) (by decide)) fun y H15 e15 ⟨p7, x1, x2, H15a, H15b, ey, f1, ⟨z1, zs1, ex1, n1, g1, l1, p1⟩, f2, ⟨z2, zs2, ex2, n2, g2, l2, p2⟩, np7, eH⟩ => ?_
    subst ey
    subst ex1
    subst ex2
    have a1 := e14.pot.ne n1
    have b1' := f1.pot.ne n2
    have hz1 := f2.keep a1 g1
    have a2 : z1 ≠ p7 := fun z => by rw [z, np7] at hz1; cases hz1
    have b2 : z2 ≠ p7 := fun z => by rw [z, np7] at g2; cases g2
    have hp7 : H15 p7 = some (.lst [.ref z1, .ref z2]) := by rw [eH]; exact upd_same
    have hz1' : H15 z1 = some (.lst (intV zs1)) := by rw [eH, upd_ne a2]; exact hz1
    have hz2' : H15 z2 = some (.lst (intV zs2)) := by rw [eH, upd_ne b2]; exact g2
    have np14 := ex_back (f1.trans f2) np7
    have np7' := e14.pot.ne np14
    have np10 := ex_back e14 np14
    clear eH hz1 g2 g1
    refine q_appD (l := p7) (xs := [.ref z1, .ref z2]) (P := fun y H' => ∃ p zs, y = .ref p ∧ H15 p = none ∧ H' p = some (.lst (intV zs)) ∧ zs.length = L.n ∧ ∀ z ∈ zs, 0 ≤ z ∧ z < 3) hp7 np7' e15.pot (ev_var rfl) (fun H16 e16 Q2 q2 => drawn H16 _ _ 3 (e15.then e16) (fun _ => rfl) rfl (fun v H1 => ⟨rfl, ev_c⟩) (by decide) Q2 fun y H2 e ⟨p, zs, ey, np, hp, hl, hz⟩ => q2 y H2 e ⟨p, zs, ey, fresh_back e16 np, hp, hl, hz⟩) (by show 2 < 100000; decide) fun y H16 e16 ⟨z3, zs3, ey, n3, c3, l3, p3⟩ => ?_
    subst ey
    have n37 : z3 ≠ p7 := fun z => by rw [z, hp7] at n3; cases n3
    have d17 : Dr pot H10 (upd H16 p7 (.lst ([.ref z1, .ref z2] ++ [.ref z3]))) := (e14.trans (e15.trans e16)).mut hP np10
    have k1 : (upd H16 p7 (.lst ([.ref z1, .ref z2] ++ [.ref z3]))) z1 = some (.lst (rowV L.n (nth zs1))) := by rw [upd_ne a2, e16.keep a1 hz1', rowV_nth l1]
    have k2 : (upd H16 p7 (.lst ([.ref z1, .ref z2] ++ [.ref z3]))) z2 = some (.lst (rowV L.n (nth zs2))) := by rw [upd_ne b2, e16.keep b1' hz2', rowV_nth l2]
    have k3 : (upd H16 p7 (.lst ([.ref z1, .ref z2] ++ [.ref z3]))) z3 = some (.lst (rowV L.n (nth zs3))) := by rw [upd_ne n37, c3, rowV_nth l3]
    have k7 : (upd H16 p7 (.lst ([.ref z1, .ref z2] ++ [.ref z3]))) p7 = some (.lst [.ref z1, .ref z2, .ref z3]) := upd_same
    generalize upd H16 p7 (.lst ([.ref z1, .ref z2] ++ [.ref z3])) = H17 at d17 k1 k2 k3 k7
    have lp : LParts K H17 pot p7 z1 z2 z3 L.n (nth zs1) (nth zs2) (nth zs3) := ⟨⟨np7', sq_of k7⟩, ⟨a1, sq_of k1⟩, ⟨b1', sq_of k2⟩, ⟨e15.pot.ne n3, sq_of k3⟩⟩
    have hB17 : WebAt K H17 bw (wSrt L) B := by
      obtain ⟨_, hn⟩ := hP
      exact webAt_exp d17.ex hn hB
    have hc17 := hc.dr d17 hl
    have ix0 : ∀ {σ : L2.St} {H' : Hp}, Ex H17 H' → σ[7]? = some (some (.ref p7)) → Ev (tOp (rIx K) (tVar 7) (tC (.int 0))) σ H' (.ref z1) := fun e h => ev_ix (ev_var h) ev_c (.l (lp.mono e).h.2) rfl
    have ix1 : ∀ {σ : L2.St} {H' : Hp}, Ex H17 H' → σ[7]? = some (some (.ref p7)) → Ev (tOp (rIx K) (tVar 7) (tC (.int 1))) σ H' (.ref z2) := fun e h => ev_ix (ev_var h) ev_c (.l (lp.mono e).h.2) rfl
    have ix2 : ∀ {σ : L2.St} {H' : Hp}, Ex H17 H' → σ[7]? = some (some (.ref p7)) → Ev (tOp (rIx K) (tVar 7) (tC (.int 2))) σ H' (.ref z3) := fun e h => ev_ix (ev_var h) ev_c (.l (lp.mono e).h.2) rfl
    refine q_asgX (P := fun y H' => ∃ p B', y = .ref p ∧ PapAt K H' p (wSrt L) C k (nth zs1) (nth zs2) (nth zs3) B') (evx_mk (EvA.toX (ea_cons (ev_var rfl) (ea_cons (ev_var rfl) (ea_cons (ev_var rfl) (ea_cons (ix0 (Ex.refl _) rfl) (ea_cons (ix1 (Ex.refl _) rfl) (ea_cons (ix2 (Ex.refl _) rfl) ea_nil))))))) fun vs H18 x dx e18 ev h1 h2 h3 Q2 q2 => ?_) fun y H18 e18 ⟨pn, B', ey, hpn⟩ => ?_
    · subst ev
      have rg : ∀ {zs : List Int} {m : Int}, zs.length = L.n → (∀ z ∈ zs, 0 ≤ z ∧ z < m) → ∀ v : Int, 0 ≤ v → v < L.n → 0 ≤ nth zs v ∧ nth zs v < m := fun h1 h2 v a b => h2 _ (nth_mem a (by omega))
      exact ⟨H18, x, dx, bw, wSrt L, B, k, c, C, l, z1, nth zs1, z2, nth zs2, z3, nth zs3, rfl, Fill.made h1 h2 h3, hB17.mono e18, hc17.mono e18, .l (lp.mono e18).hr.2, .l (lp.mono e18).h1.2, .l (lp.mono e18).h2.2, k0, by omega, fun v a b => ⟨(rg l1 p1 v a b).1, by have := (rg l1 p1 v a b).2; omega⟩, fun v a b => (rg l2 p2 v a b).1, fun v a b => (rg l3 p3 v a b).1, fun H' B' e _ hp => q2 H' e ⟨x, B', rfl, hp⟩⟩
    · subst ey
      have d18 := d17.then e18
      refine ⟨_, rfl, _, rfl, _, rfl, _, rfl, evx_mk1 (ev_var rfl) hpn H18 (Ex.refl _) _ fun y1 H19 e19 ⟨m1, ey1, hm1⟩ => evx_mk2 (ev_var rfl) (hpn.mono e19) H19 (Ex.refl _) _ fun y2 H20 e20 ⟨m2, ey2, hm2⟩ => ?_⟩
      subst ey1
      subst ey2
      have e1820 := e18.trans (e19.trans e20)
      exact spv_law_states (hw.dr hP (d18.then (e19.trans e20))) (hc17.mono e1820) (lp.mono e1820) (hm1.mono e20) hm2 k0 (by omega) H20 (Ex.refl _) _ (fun H21 e21 => kk H21) E0
end
theorem d_law {w : World} {K : Frag} {mg : Str → Option Value} {base : Heap} (T : Txt w K mg) {f : Addr} {cdv : Value} {A : Around} {outer : List Env} {s : Shared} {H : Hp} {E : XK} (hr : Room 11 (A.deeper (envOfC "law" (defScope s_law) s.heap.objs.size f cdv))) :
    PSs (cxOf CX0 PP w K mg base N_law "law" (defScope s_law) f cdv A outer s H E).nox (defBody s_law) (t_law K) := by
  exact (pss_cons (ps_set (i := 1) sc_law.nd rfl (Or.inr rfl) (pe_f (ok__law_pot T) hr (by decide) (by rfl) (pa_cons (pv 0) pa_nil)))
    (pss_cons (ps_set (i := 2) sc_law.nd rfl (Or.inl rfl) (pe_f (ok__law_web T) hr (by decide) (by rfl) (pa_cons (pv 1) (pa_cons pe_int (pa_cons pe_bl pa_nil)))))
    (pss_cons (ps_set (i := 3) sc_law.nd rfl (Or.inr rfl) (pe_f (ok__law_draw T) hr (by decide) (by rfl) (pa_cons (pv 1) (pa_cons pe_int pa_nil))))
    (pss_cons (ps_set (i := 4) sc_law.nd rfl (Or.inl rfl) (pe_f (ok__law_calls T) hr (by decide) (by rfl) (pa_cons (pv 1) (pa_cons (pv 2) pa_nil))))
    (pss_cons (ps_set (i := 5) sc_law.nd rfl (Or.inl rfl) (pe_f (ok__law_built T) hr (by decide) (by rfl) (pa_cons (pv 2) pa_nil)))
    (pss_cons (ps_set (i := 6) sc_law.nd rfl (Or.inl rfl) (pe_f (ok__law_forever T) hr (by decide) (by rfl) (pa_cons (pv 2) (pa_cons (pv 3) (pa_cons (pv 4) pa_nil)))))
    (pss_cons (ps_set (i := 7) sc_law.nd rfl (Or.inl rfl) (pe_lst (pa_cons (pv 6) (pa_cons (pe_ix ix_seq (pe_f (ok__law_call_ranks T) hr (by decide) (by rfl) (pa_cons (pv 2) (pa_cons (pv 3) (pa_cons (pv 4) (pa_cons (pv 6) pa_nil))))) pe_int (fun _ _ => rfl)) (pa_cons (pe_ix ix_seq (pe_f (ok__law_call_counts T) hr (by decide) (by rfl) (pa_cons (pv 2) (pa_cons (pv 3) (pa_cons (pv 4) (pa_cons (pv 6) pa_nil))))) pe_int (fun _ _ => rfl)) pa_nil)))))
    (pss_cons (ps_set (i := 8) sc_law.nd rfl (Or.inl rfl) (ClX.pe_cmeth (pe_glob (v := .ref (gP K)) (by rfl) (T.glo (memOf 75 rfl)) rfl) T.cread T.cmet (ok_CallPaper_of T) (hr.mono (by decide)) pass0 (pa_cons (pv 5) (pa_cons (pv 3) (pa_cons (pv 4) pa_nil)))))
    (pss_cons (ps_set (i := 9) sc_law.nd rfl (Or.inl rfl) (pe_makeN T.mk1 (ok_CallFirst___init__ T) hr (by decide) (T.glo (memOf 77 rfl)) (by rfl) (pa_cons (pv 8) pa_nil)))
    (pss_cons (ps_set (i := 10) sc_law.nd rfl (Or.inl rfl) (pe_makeN T.mk2 (ok_CallSecond___init__ T) hr (by decide) (T.glo (memOf 78 rfl)) (by rfl) (pa_cons (pv 8) pa_nil)))
    (pss_cons (ps_if (pt_not (pt_val (pe_f (ok__law_states T) hr (by decide) (by rfl) (pa_cons (pv 2) (pa_cons (pv 3) (pa_cons (pv 4) (pa_cons (pv 7) (pa_cons (pv 9) (pa_cons (pv 10) pa_nil))))))))) (pss_one (ps_ret pe_bl)) pss_nil)
    (pss_cons (ps_if (pt_cmpR op_ne (pe_methN (pv 9) T.c1 (T.m1 (memOf 1 rfl)).1 (ok_CallFirst_due_by T) hr (by decide) (pa_cons pe_int pa_nil)) (pe_op op_add (pe_op op_mul (pe_op op_add (pe_callB (cr_max rfl) (by rfl) (T.free (memOf 3 rfl)) b_max (pa_cons (pe_ix ix_seq (pv 7) pe_int (fun _ _ => rfl)) pa_nil)) pe_int) pe_int) (pe_op op_mul (pe_callB (cr_max rfl) (by rfl) (T.free (memOf 3 rfl)) b_max (pa_cons (pe_ix ix_seq (pv 7) pe_int (fun _ _ => rfl)) pa_nil)) (pv 3))) (nomark _)) (pss_one (ps_ret pe_bl)) pss_nil)
    (pss_cons (ps_if (PW.pt (pw_or (pt_cmpR op_ne (pe_methN0 (pv 10) T.c2 (T.m2 (memOf 1 rfl)).1 (ok_CallSecond_visits_at_most T) hr (by decide)) (pe_op op_mul (pe_callB (cr_max rfl) (by rfl) (T.free (memOf 3 rfl)) b_max (pa_cons (pe_ix ix_seq (pv 7) pe_int (fun _ _ => rfl)) pa_nil)) (pe_op op_add (pv 3) pe_int)) (nomark _)) (pw_or1 (pt_cmpR (op_neD hr.units) (pe_row1 rfl T (pv 9) hr (by decide)) (pe_callTy call_tuple_of (by rfl) (T.free (memOf 6 rfl)) b_tuple (pa_cons (pv 6) pa_nil)) (nomark _))))) (pss_one (ps_ret pe_bl)) pss_nil)
    (pss_cons (ps_for PassesOwn.never rfl (pi_range1 (by rfl) (T.free (memOf 1 rfl)) (pa_cons pe_int pa_nil)) (pg_name (i := 11) sc_law.nd rfl (Or.inl rfl)) (pss_cons (ps_set (i := 12) sc_law.nd rfl (Or.inl rfl) (pe_f (ok__law_draw T) hr (by decide) (by rfl) (pa_cons (pv 1) (pa_cons (pe_callB call_len_seq (by rfl) (T.free (memOf 0 rfl)) b_len (pa_cons (pv 6) pa_nil)) pa_nil))))
    (pss_cons (ps_set (i := 13) sc_law.nd rfl (Or.inl rfl) (pe_f (ok__law_draw T) hr (by decide) (by rfl) (pa_cons (pv 1) (pa_cons (pe_op op_add (pv 3) pe_int) pa_nil))))
    (pss_cons (ps_set (i := 14) sc_law.nd rfl (Or.inl rfl) (pe_f (ok__law_draw T) hr (by decide) (by rfl) (pa_cons (pv 1) (pa_cons pe_int pa_nil))))
    (pss_cons (ps_set (i := 15) sc_law.nd rfl (Or.inl rfl) (pe_f (ok_call_duel T) hr (by decide) (by rfl) (pa_cons (pv 5) (pa_cons (pv 3) (pa_cons (pv 4) (pa_cons (pv 12) (pa_cons (pv 13) (pa_cons (pv 14) pa_nil))))))))
    (pss_cons (ps_if (PW.pt (pw_or (pt_not (pt_val (pe_callB call_isi (by rfl) (T.free (memOf 5 rfl)) b_isinstance (pa_cons (pv 15) (pa_cons (pe_bltn (v := .ty "tuple") (by rfl) (T.free (memOf 6 rfl)) b_tuple rfl) pa_nil))))) (pw_or1 (pt_cmpR (op_neD hr.units) (pv 15) (pe_f (ok__law_duel T) hr (by decide) (by rfl) (pa_cons (pv 2) (pa_cons (pv 3) (pa_cons (pv 4) (pa_cons (pv 7) (pa_cons (pv 12) (pa_cons (pv 13) (pa_cons (pv 14) pa_nil)))))))) (nomark _))))) (pss_one (ps_ret pe_bl)) pss_nil)
    (pss_one (ps_if (pt_cmpR op_ge (pv 13) (pe_ix ix_seq (pv 6) (pv 12) (fun _ _ => rfl)) (nomark _)) (pss_one (ps_if (pt_not (pt_val (pe_f (ok__law_first_play T) hr (by decide) (by rfl) (pa_cons (pv 2) (pa_cons (pv 3) (pa_cons (pv 4) (pa_cons (pv 9) (pa_cons (pv 12) (pa_cons (pv 13) (pa_cons (pv 1) pa_nil)))))))))) (pss_one (ps_ret pe_bl)) pss_nil)) (pss_one (ps_if (pt_not (pt_val (pe_f (ok__law_second_play T) hr (by decide) (by rfl) (pa_cons (pv 2) (pa_cons (pv 3) (pa_cons (pv 4) (pa_cons (pv 6) (pa_cons (pv 10) (pa_cons (pv 12) (pa_cons (pv 13) (pa_cons (pv 1) pa_nil))))))))))) (pss_one (ps_ret pe_bl)) pss_nil))))))))))
    (pss_cons (ps_set (i := 7) sc_law.nd rfl (Or.inl rfl) (pe_lst (pa_cons (pe_lc (own := [("_law_part", 17)]) (g := gName 17) (tt := tYes) (te := (tFn (sp__law_draw K) (tCons (tVar 1) (tCons (tOp rAdd (tVar 3) (tC (.int 2))) tNil)))) rfl sc_law.nd (pi_seq (pv 6)) (blkOk_by (N := N_law) (sc := defScope s_law) (by decide +kernel)) (fun _ _ _ _ _ => pg_name (i := 17) sc_law.nd rfl (Or.inl rfl)) (fun _ _ _ _ _ => pts_nil) (fun _ _ _ _ _ => (pe_f (ok__law_draw T) hr (by decide) (by rfl) (pa_cons (pv 1) (pa_cons (pe_op op_add (pv 3) pe_int) pa_nil))))) (pa_cons (pe_lc (own := [("_law_part", 17)]) (g := gName 17) (tt := tYes) (te := (tFn (sp__law_draw K) (tCons (tVar 1) (tCons (tC (.int 3)) tNil)))) rfl sc_law.nd (pi_seq (pv 6)) (blkOk_by (N := N_law) (sc := defScope s_law) (by decide +kernel)) (fun _ _ _ _ _ => pg_name (i := 17) sc_law.nd rfl (Or.inl rfl)) (fun _ _ _ _ _ => pts_nil) (fun _ _ _ _ _ => (pe_f (ok__law_draw T) hr (by decide) (by rfl) (pa_cons (pv 1) (pa_cons pe_int pa_nil))))) pa_nil))))
    (pss_cons (ps_expr (pe_bm PySem.F.plainAttrs_list PySem.F.slot_list_append PySem.F.type_list_append mt_append (pv 7) (pa_cons (pe_lc (own := [("_law_part", 17)]) (g := gName 17) (tt := tYes) (te := (tFn (sp__law_draw K) (tCons (tVar 1) (tCons (tC (.int 3)) tNil)))) rfl sc_law.nd (pi_seq (pv 6)) (blkOk_by (N := N_law) (sc := defScope s_law) (by decide +kernel)) (fun _ _ _ _ _ => pg_name (i := 17) sc_law.nd rfl (Or.inl rfl)) (fun _ _ _ _ _ => pts_nil) (fun _ _ _ _ _ => (pe_f (ok__law_draw T) hr (by decide) (by rfl) (pa_cons (pv 1) (pa_cons pe_int pa_nil))))) pa_nil)))
    (pss_cons (ps_set (i := 16) sc_law.nd rfl (Or.inl rfl) (pe_makeN T.mkP (ok_CallPaper___init__ T) hr (by decide) (T.glo (memOf 75 rfl)) (by rfl) (pa_cons (pv 5) (pa_cons (pv 3) (pa_cons (pv 4) (pa_cons (pe_ix ix_seq (pv 7) pe_int (fun _ _ => rfl)) (pa_cons (pe_ix ix_seq (pv 7) pe_int (fun _ _ => rfl)) (pa_cons (pe_ix ix_seq (pv 7) pe_int (fun _ _ => rfl)) pa_nil))))))))
    (pss_one (ps_ret (pe_f (ok__law_states T) hr (by decide) (by rfl) (pa_cons (pv 2) (pa_cons (pv 3) (pa_cons (pv 4) (pa_cons (pv 7) (pa_cons (pe_makeN T.mk1 (ok_CallFirst___init__ T) hr (by decide) (T.glo (memOf 77 rfl)) (by rfl) (pa_cons (pv 16) pa_nil)) (pa_cons (pe_makeN T.mk2 (ok_CallSecond___init__ T) hr (by decide) (T.glo (memOf 78 rfl)) (by rfl) (pa_cons (pv 16) pa_nil)) pa_nil))))))))))))))))))))))))))
theorem ok_law {w : World} {K : Frag} {mg : Str → Option Value} {base : Heap} (T : Txt w K mg) : GF PP w K mg base "law" 12 (sp_law K) := by
  have F := T.def_ (d := xf_law) (memOf 99 rfl) rfl
  refine ⟨fnr_mk (k := 11) F sc_law (fun _ _ _ _ _ _ us hl => match us, hl with | [_], _ => rfl) (fun vs H Q E h => len_law h) (fun cdv A outer s H vs Q E hr h => ⟨t_law K, d_law T hr, pure_law T h⟩), ?_, T.glo (memOf 73 rfl)⟩
  obtain ⟨fd, F⟩ := F
  exact F.kp
end Pw
end

section
set_option maxRecDepth 100000
set_option maxHeartbeats 0
namespace Pw
open PySem PySem.Spec PyProof.Rows L2
theorem facts {w : World} {K : Frag} {h : Heap} {mg : Str → Option Value} {f : Addr} (X : K.In h) (G : h.Ns mainGlobals mg) (hfa : mg ("law" : Str) = some (.ref f)) (c : SaysP K) :
    ∃ fd : FuncData, (∀ (s : Shared) (v : Value), BindsTo s fd ⟨[v], []⟩ [("_law_script", v)]) ∧ ∀ base : Heap, K.In base → base.Ns mainGlobals mg → FnOk PP w K mg base CX0 12 f fd ["_law_script"] (sp_law K) := by
  have T : Txt w K mg := ⟨c, h, X, G⟩
  obtain ⟨fd, F⟩ := T.def_ (d := xf_law) (memOf 99 rfl) rfl
  have g : mg ("law" : Str) = some (.ref (He.ga K "law")) := T.glo (memOf 73 rfl)
  have e : f = He.ga K "law" := by
    have := hfa.symm.trans g
    cases this
    rfl
  subst e
  refine ⟨fd, fun s v => F.bindsA (ps := ["_law_script"]) (fun _ _ _ _ _ _ us hl => match us, hl with | [_], _ => rfl) s [v] rfl, fun base _ _ => ?_⟩
  exact F.ok (k := 11) sc_law (fun vs H Q E h => len_law h) fun cdv A outer s H vs Q E hr h => ⟨t_law K, (d_law T hr).nox, pure_law T h⟩
end Pw
open PySem PySem.W PySem.Calls PyProof.Rows
theorem PySem.Challenge.cw_pursewebs_k72_whole_plans_for_ever_holds : PySem.Challenge.rw_pursewebs_k72_whole_plans_for_ever.Holds := by
  w_on; o_law
  refine HandSHeadRun.head_any (r := OpenLaw.row PySem.Challenge.rw_pursewebs_k72_whole_plans_for_ever) (q := view (OpenLaw.row PySem.Challenge.rw_pursewebs_k72_whole_plans_for_ever).prog [106]) (H := Pw.hk) (ob := Pw.ob) (M := 12000) (loose := Pw.loose) (d := HandSHeadRun.topDef (OpenLaw.row PySem.Challenge.rw_pursewebs_k72_whole_plans_for_ever).prog 106) (kwd := []) Pw.ob_eq
    (by kernel_rfl) (fun s => by kernel_rfl) Pw.run (by kernel_rfl) (by kernel_rfl) (by kernel_rfl) (by rfl) (by first | assumption | decide +kernel) (by decide +kernel) ⟨rfl, rfl, rfl, rfl, rfl, by decide +kernel⟩ ?hw ?hc
  case hw => w_witness2
  case hc =>
    refine L2.walk_ofE (l := PySem.Challenge.rw_pursewebs_k72_whole_plans_for_ever) (n := 63) (k := 12) (x := "_law_script") (CX := L2.CX0) rfl (by decide) (by kernel_rfl) ⟨rfl, by decide, by decide⟩ ?F (fun _ _ _ _ z => z)
    intro w mg fa h Y G hmg0
    obtain ⟨K, KX, c⟩ := Y
    have hmg : mg ("law" : PySem.Str) = some (.ref fa) := by
      have e : (HandSHeadRun.topDef (OpenLaw.row PySem.Challenge.rw_pursewebs_k72_whole_plans_for_ever).prog 106).name = ("law" : PySem.Str) := by kernel_rfl
      rw [← e]
      exact hmg0
    obtain ⟨fd, hb, hF⟩ := Pw.facts (w := w) KX G hmg c
    exact ⟨K, fd, Pw.sp_law K, KX, hb, fun H a ns hl _ hS => ⟨a, ns, rfl, hS, fun _ => rfl⟩, hF⟩
end
